import PyProof.Rows.All
import Wide.All
import OpenK.AllK
import Wide.FinOn
import Lean
import PySem.Challenge.RW_pq0456_01
open PySem PySem.W PyProof.Rows
set_option Elab.async false
set_option maxRecDepth 100000
set_option maxHeartbeats 16000000
set_option rowWalk.seconds 0
set_option linter.unusedVariables false
namespace G456
open PySem PySem.W PyProof.Rows PySem.Calls
noncomputable def fnBody : Stmt → List Stmt
  | .FunctionDef (body := b) .. => b
  | _ => []
noncomputable def fnScope : Stmt → Scope
  | .FunctionDef (scope := s) .. => s
  | _ => default
noncomputable def fnParams : Stmt → Arguments
  | .FunctionDef (args := p) .. => p
  | _ => default
noncomputable def fnPos : Stmt → Pos
  | .FunctionDef (pos := p) .. => p
  | _ => default
noncomputable def forBody : Stmt → List Stmt
  | .For (body := b) .. => b
  | _ => []
noncomputable def clsBody : Stmt → List Stmt
  | .ClassDef (body := b) .. => b
  | _ => []
noncomputable def ifBody : Stmt → List Stmt
  | .If (body := b) .. => b
  | _ => []
noncomputable def lastS : List Stmt → Stmt
  | [] => .Pass default
  | [x] => x
  | _ :: y :: r => lastS (y :: r)
noncomputable def tlS : List Stmt → List Stmt
  | [] => []
  | _ :: r => r
noncomputable def hdS : List Stmt → Stmt
  | [] => .Pass default
  | x :: _ => x
noncomputable def nthS : Nat → List Stmt → Stmt
  | 0, l => hdS l
  | n + 1, l => nthS n (tlS l)
noncomputable def lawDef : Stmt := lastS Challenge.pw_pq0456_01.main.body
noncomputable def lawScope : Scope := fnScope lawDef
noncomputable def lawTail : List Stmt := tlS (tlS (tlS (tlS (tlS (tlS (fnBody lawDef))))))
noncomputable def buildBody : List Stmt := forBody (hdS lawTail)
noncomputable def askBody : List Stmt := forBody (hdS (tlS lawTail))
noncomputable def scMeth (i : Nat) : Stmt := nthS i (clsBody (nthS 5 Challenge.pw_pq0456_01.main.body))
noncomputable def fStmt (c i : Nat) : Stmt := nthS i (clsBody (nthS c Challenge.pw_pq0456_01.main.body))
noncomputable def fBody (c i : Nat) : List Stmt := fnBody (fStmt c i)
noncomputable def fScope (c i : Nat) : Scope := fnScope (fStmt c i)
noncomputable def fParams (c i : Nat) : Arguments := fnParams (fStmt c i)
noncomputable def tkStmt : Stmt := nthS 10 Challenge.pw_pq0456_01.main.body
noncomputable def tkBody : List Stmt := fnBody tkStmt
noncomputable def tkScope : Scope := fnScope tkStmt
noncomputable def tkParams : Arguments := fnParams tkStmt
noncomputable def kw : Str := Str.ofString "law"
noncomputable def K0 : Params → Frag := fun P => (fun (_ : kw = Str.ofString "law") => (nat_lit 2, { cls := PySem.Value.none, data := PySem.Data.dict #[{ hash := PySem.PyData.keyHash P (PySem.Str.ofString "type.__subclasses__.Exception.0"), key := PySem.Value.str (PySem.Str.ofString "type.__subclasses__.Exception.0") 228, val := PySem.Value.int 39 0 }, { hash := PySem.PyData.keyHash P (PySem.Str.ofString "type.__subclasses__.Exception.n"), key := PySem.Value.str (PySem.Str.ofString "type.__subclasses__.Exception.n") 229, val := PySem.Value.int 1 0 }] 2 }) ::
  (nat_lit 3, { cls := PySem.Value.type "dict", data := PySem.Data.dict #[{ hash := PySem.PyData.keyHash P (PySem.Str.ofString "__name__"), key := PySem.Value.str (PySem.Str.ofString "__name__") 165, val := PySem.Value.str (PySem.Str.ofString "law_pq0456_01") 522 }, { hash := PySem.PyData.keyHash P (PySem.Str.ofString "__doc__"), key := PySem.Value.str (PySem.Str.ofString "__doc__") 166, val := PySem.Value.none }, { hash := PySem.PyData.keyHash P (PySem.Str.ofString "__package__"), key := PySem.Value.str (PySem.Str.ofString "__package__") 167, val := PySem.Value.none }, { hash := PySem.PyData.keyHash P (PySem.Str.ofString "__loader__"), key := PySem.Value.str (PySem.Str.ofString "__loader__") 168, val := PySem.Value.builtin "__main__.__loader__#opaque" }, { hash := PySem.PyData.keyHash P (PySem.Str.ofString "__spec__"), key := PySem.Value.str (PySem.Str.ofString "__spec__") 169, val := PySem.Value.none }, { hash := PySem.PyData.keyHash P (PySem.Str.ofString "__annotations__"), key := PySem.Value.str (PySem.Str.ofString "__annotations__") 170, val := PySem.Value.ref 6 }, { hash := PySem.PyData.keyHash P (PySem.Str.ofString "__builtins__"), key := PySem.Value.str (PySem.Str.ofString "__builtins__") 171, val := PySem.Value.ref 4 }, { hash := PySem.PyData.keyHash P (PySem.Str.ofString "__file__"), key := PySem.Value.str (PySem.Str.ofString "__file__") 173, val := PySem.Value.str (PySem.Str.ofString "/claim/cut.py") 172 }, { hash := PySem.PyData.keyHash P (PySem.Str.ofString "__cached__"), key := PySem.Value.str (PySem.Str.ofString "__cached__") 174, val := PySem.Value.none }, { hash := PySem.PyData.keyHash P (PySem.Str.ofString "_wall"), key := PySem.Value.str (PySem.Str.ofString "_wall") 193, val := PySem.Value.ref 21 }, { hash := PySem.PyData.keyHash P (PySem.Str.ofString "GateloomError"), key := PySem.Value.str (PySem.Str.ofString "GateloomError") 231, val := PySem.Value.ref 39 }, { hash := PySem.PyData.keyHash P (PySem.Str.ofString "DesignError"), key := PySem.Value.str (PySem.Str.ofString "DesignError") 247, val := PySem.Value.ref 52 }, { hash := PySem.PyData.keyHash P (PySem.Str.ofString "Scope"), key := PySem.Value.str (PySem.Str.ofString "Scope") 365, val := PySem.Value.ref 127 }, { hash := PySem.PyData.keyHash P (PySem.Str.ofString "Routine"), key := PySem.Value.str (PySem.Str.ofString "Routine") 420, val := PySem.Value.ref 155 }, { hash := PySem.PyData.keyHash P (PySem.Str.ofString "Design"), key := PySem.Value.str (PySem.Str.ofString "Design") 521, val := PySem.Value.ref 218 }, { hash := PySem.PyData.keyHash P (PySem.Str.ofString "_law_take"), key := PySem.Value.str (PySem.Str.ofString "_law_take") 532, val := PySem.Value.ref 229 }, { hash := PySem.PyData.keyHash P (PySem.Str.ofString "law"), key := PySem.Value.str (PySem.Str.ofString "law") 561, val := PySem.Value.ref 236 }] 17 }) ::
  (nat_lit 29, { cls := PySem.Value.type "tuple", data := PySem.Data.seq #[PySem.Value.int (-1) 209, PySem.Value.str (PySem.Str.ofString "") 210] }) ::
  (nat_lit 35, { cls := PySem.Value.type "code", data := PySem.Data.fields #[PySem.Value.str (PySem.Str.ofString "__init__") 211, PySem.Value.str (PySem.Str.ofString "GateloomError.__init__") 212, PySem.Value.str (PySem.Str.ofString "/claim/cut.py") 213, PySem.Value.int 7 0, PySem.Value.int 4 0, PySem.Value.int 0 0, PySem.Value.int 0 0, PySem.Value.int 3 0, PySem.Value.ref 30, PySem.Value.bool true, PySem.Value.int 181 0, PySem.Value.ref 31, PySem.Value.none, PySem.Value.ref 32, PySem.Value.ref 33, PySem.Value.ref 34, PySem.Value.int 218 0, PySem.Value.int 7 0, PySem.Value.str (PySem.Str.ofString "/claim/cut.py") 219] }) ::
  (nat_lit 36, { cls := PySem.Value.type "function", data := PySem.Data.func { name := PySem.Str.ofString "__init__", qualname := PySem.Str.ofString "GateloomError.__init__", params := fParams 2 0, body := FuncBody.stmts (fBody 2 0), scope := fScope 2 0, globals := 3, closure := [], defaults := PySem.Value.ref 29, kwdefaults := PySem.Value.none, pyModule := PySem.Value.str (PySem.Str.ofString "gateloom.errors") 194, code := PySem.Value.ref 35 } }) ::
  (nat_lit 38, { cls := PySem.Value.type "dict", data := PySem.Data.dict #[{ hash := PySem.PyData.keyHash P (PySem.Str.ofString "__module__"), key := PySem.Value.str (PySem.Str.ofString "__module__") 203, val := PySem.Value.str (PySem.Str.ofString "gateloom.errors") 194 }, { hash := PySem.PyData.keyHash P (PySem.Str.ofString "__firstlineno__"), key := PySem.Value.str (PySem.Str.ofString "__firstlineno__") 207, val := PySem.Value.int 5 206 }, { hash := PySem.PyData.keyHash P (PySem.Str.ofString "__init__"), key := PySem.Value.str (PySem.Str.ofString "__init__") 220, val := PySem.Value.ref 36 }, { hash := PySem.PyData.keyHash P (PySem.Str.ofString "__static_attributes__"), key := PySem.Value.str (PySem.Str.ofString "__static_attributes__") 224, val := PySem.Value.ref 37 }, { hash := PySem.PyData.keyHash P (PySem.Str.ofString "__weakref__"), key := PySem.Value.str (PySem.Str.ofString "__weakref__") 226, val := PySem.Value.ref 40 }, { hash := PySem.PyData.keyHash P (PySem.Str.ofString "__doc__"), key := PySem.Value.str (PySem.Str.ofString "__doc__") 227, val := PySem.Value.none }] 3 }) ::
  (nat_lit 39, { cls := PySem.Value.type "type", data := PySem.Data.cls { name := PySem.Str.ofString "GateloomError", bases := [PySem.Value.type "Exception"], mro := [PySem.Value.ref 39, PySem.Value.type "Exception", PySem.Value.type "BaseException", PySem.Value.type "object"], ns := 38, qualname := PySem.Str.ofString "GateloomError", subclasses := [PySem.Value.ref 52] }, slots := #[some (PySem.Value.ref 22), none, some (PySem.Value.str (PySem.Str.ofString "GateloomError") 196), some (PySem.Value.str (PySem.Str.ofString "GateloomError") 204), some (PySem.Value.builtin "Exception.__new__"), some (PySem.Value.bool true)] }) ::
  (nat_lit 51, { cls := PySem.Value.type "dict", data := PySem.Data.dict #[{ hash := PySem.PyData.keyHash P (PySem.Str.ofString "__module__"), key := PySem.Value.str (PySem.Str.ofString "__module__") 239, val := PySem.Value.str (PySem.Str.ofString "gateloom.errors") 194 }, { hash := PySem.PyData.keyHash P (PySem.Str.ofString "__firstlineno__"), key := PySem.Value.str (PySem.Str.ofString "__firstlineno__") 243, val := PySem.Value.int 11 242 }, { hash := PySem.PyData.keyHash P (PySem.Str.ofString "__static_attributes__"), key := PySem.Value.str (PySem.Str.ofString "__static_attributes__") 244, val := PySem.Value.ref 50 }, { hash := PySem.PyData.keyHash P (PySem.Str.ofString "__doc__"), key := PySem.Value.str (PySem.Str.ofString "__doc__") 245, val := PySem.Value.none }] 2 }) ::
  (nat_lit 52, { cls := PySem.Value.type "type", data := PySem.Data.cls { name := PySem.Str.ofString "DesignError", bases := [PySem.Value.ref 39], mro := [PySem.Value.ref 52, PySem.Value.ref 39, PySem.Value.type "Exception", PySem.Value.type "BaseException", PySem.Value.type "object"], ns := 51, qualname := PySem.Str.ofString "DesignError" }, slots := #[some (PySem.Value.ref 43), none, some (PySem.Value.str (PySem.Str.ofString "DesignError") 232), some (PySem.Value.str (PySem.Str.ofString "DesignError") 240), some (PySem.Value.builtin "Exception.__new__"), some (PySem.Value.bool true)] }) ::
  (nat_lit 67, { cls := PySem.Value.type "code", data := PySem.Data.fields #[PySem.Value.str (PySem.Str.ofString "__init__") 262, PySem.Value.str (PySem.Str.ofString "Scope.__init__") 263, PySem.Value.str (PySem.Str.ofString "/claim/cut.py") 264, PySem.Value.int 16 0, PySem.Value.int 5 0, PySem.Value.int 0 0, PySem.Value.int 0 0, PySem.Value.int 3 0, PySem.Value.ref 62, PySem.Value.bool true, PySem.Value.int 181 0, PySem.Value.ref 63, PySem.Value.none, PySem.Value.ref 64, PySem.Value.ref 65, PySem.Value.ref 66, PySem.Value.int 270 0, PySem.Value.int 16 0, PySem.Value.str (PySem.Str.ofString "/claim/cut.py") 271] }) ::
  (nat_lit 68, { cls := PySem.Value.type "function", data := PySem.Data.func { name := PySem.Str.ofString "__init__", qualname := PySem.Str.ofString "Scope.__init__", params := fParams 5 0, body := FuncBody.stmts (fBody 5 0), scope := fScope 5 0, globals := 3, closure := [], defaults := PySem.Value.none, kwdefaults := PySem.Value.none, pyModule := PySem.Value.str (PySem.Str.ofString "gateloom.scopes") 248, code := PySem.Value.ref 67 } }) ::
  (nat_lit 74, { cls := PySem.Value.type "code", data := PySem.Data.fields #[PySem.Value.str (PySem.Str.ofString "child") 273, PySem.Value.str (PySem.Str.ofString "Scope.child") 274, PySem.Value.str (PySem.Str.ofString "/claim/cut.py") 275, PySem.Value.int 30 0, PySem.Value.int 4 0, PySem.Value.int 0 0, PySem.Value.int 0 0, PySem.Value.int 3 0, PySem.Value.ref 69, PySem.Value.bool true, PySem.Value.int 181 0, PySem.Value.ref 70, PySem.Value.none, PySem.Value.ref 71, PySem.Value.ref 72, PySem.Value.ref 73, PySem.Value.int 281 0, PySem.Value.int 30 0, PySem.Value.str (PySem.Str.ofString "/claim/cut.py") 282] }) ::
  (nat_lit 75, { cls := PySem.Value.type "function", data := PySem.Data.func { name := PySem.Str.ofString "child", qualname := PySem.Str.ofString "Scope.child", params := fParams 5 1, body := FuncBody.stmts (fBody 5 1), scope := fScope 5 1, globals := 3, closure := [], defaults := PySem.Value.none, kwdefaults := PySem.Value.none, pyModule := PySem.Value.str (PySem.Str.ofString "gateloom.scopes") 248, code := PySem.Value.ref 74 } }) ::
  (nat_lit 81, { cls := PySem.Value.type "code", data := PySem.Data.fields #[PySem.Value.str (PySem.Str.ofString "declare") 284, PySem.Value.str (PySem.Str.ofString "Scope.declare") 285, PySem.Value.str (PySem.Str.ofString "/claim/cut.py") 286, PySem.Value.int 35 0, PySem.Value.int 4 0, PySem.Value.int 0 0, PySem.Value.int 0 0, PySem.Value.int 3 0, PySem.Value.ref 76, PySem.Value.bool true, PySem.Value.int 181 0, PySem.Value.ref 77, PySem.Value.none, PySem.Value.ref 78, PySem.Value.ref 79, PySem.Value.ref 80, PySem.Value.int 291 0, PySem.Value.int 35 0, PySem.Value.str (PySem.Str.ofString "/claim/cut.py") 292] }) ::
  (nat_lit 82, { cls := PySem.Value.type "function", data := PySem.Data.func { name := PySem.Str.ofString "declare", qualname := PySem.Str.ofString "Scope.declare", params := fParams 5 2, body := FuncBody.stmts (fBody 5 2), scope := fScope 5 2, globals := 3, closure := [], defaults := PySem.Value.none, kwdefaults := PySem.Value.none, pyModule := PySem.Value.str (PySem.Str.ofString "gateloom.scopes") 248, code := PySem.Value.ref 81 } }) ::
  (nat_lit 95, { cls := PySem.Value.type "code", data := PySem.Data.fields #[PySem.Value.str (PySem.Str.ofString "lookup") 301, PySem.Value.str (PySem.Str.ofString "Scope.lookup") 302, PySem.Value.str (PySem.Str.ofString "/claim/cut.py") 303, PySem.Value.int 43 0, PySem.Value.int 2 0, PySem.Value.int 0 0, PySem.Value.int 0 0, PySem.Value.int 3 0, PySem.Value.ref 90, PySem.Value.bool true, PySem.Value.int 181 0, PySem.Value.ref 91, PySem.Value.none, PySem.Value.ref 92, PySem.Value.ref 93, PySem.Value.ref 94, PySem.Value.int 307 0, PySem.Value.int 43 0, PySem.Value.str (PySem.Str.ofString "/claim/cut.py") 308] }) ::
  (nat_lit 96, { cls := PySem.Value.type "function", data := PySem.Data.func { name := PySem.Str.ofString "lookup", qualname := PySem.Str.ofString "Scope.lookup", params := fParams 5 4, body := FuncBody.stmts (fBody 5 4), scope := fScope 5 4, globals := 3, closure := [], defaults := PySem.Value.none, kwdefaults := PySem.Value.none, pyModule := PySem.Value.str (PySem.Str.ofString "gateloom.scopes") 248, code := PySem.Value.ref 95 } }) ::
  (nat_lit 109, { cls := PySem.Value.type "code", data := PySem.Data.fields #[PySem.Value.str (PySem.Str.ofString "descend") 318, PySem.Value.str (PySem.Str.ofString "Scope.descend") 319, PySem.Value.str (PySem.Str.ofString "/claim/cut.py") 320, PySem.Value.int 56 0, PySem.Value.int 2 0, PySem.Value.int 0 0, PySem.Value.int 0 0, PySem.Value.int 3 0, PySem.Value.ref 104, PySem.Value.bool true, PySem.Value.int 181 0, PySem.Value.ref 105, PySem.Value.none, PySem.Value.ref 106, PySem.Value.ref 107, PySem.Value.ref 108, PySem.Value.int 327 0, PySem.Value.int 56 0, PySem.Value.str (PySem.Str.ofString "/claim/cut.py") 328] }) ::
  (nat_lit 110, { cls := PySem.Value.type "function", data := PySem.Data.func { name := PySem.Str.ofString "descend", qualname := PySem.Str.ofString "Scope.descend", params := fParams 5 6, body := FuncBody.stmts (fBody 5 6), scope := fScope 5 6, globals := 3, closure := [], defaults := PySem.Value.none, kwdefaults := PySem.Value.none, pyModule := PySem.Value.str (PySem.Str.ofString "gateloom.scopes") 248, code := PySem.Value.ref 109 } }) ::
  (nat_lit 116, { cls := PySem.Value.type "code", data := PySem.Data.fields #[PySem.Value.str (PySem.Str.ofString "resolve") 330, PySem.Value.str (PySem.Str.ofString "Scope.resolve") 331, PySem.Value.str (PySem.Str.ofString "/claim/cut.py") 332, PySem.Value.int 75 0, PySem.Value.int 3 0, PySem.Value.int 0 0, PySem.Value.int 0 0, PySem.Value.int 3 0, PySem.Value.ref 111, PySem.Value.bool true, PySem.Value.int 181 0, PySem.Value.ref 112, PySem.Value.none, PySem.Value.ref 113, PySem.Value.ref 114, PySem.Value.ref 115, PySem.Value.int 338 0, PySem.Value.int 75 0, PySem.Value.str (PySem.Str.ofString "/claim/cut.py") 339] }) ::
  (nat_lit 117, { cls := PySem.Value.type "function", data := PySem.Data.func { name := PySem.Str.ofString "resolve", qualname := PySem.Str.ofString "Scope.resolve", params := fParams 5 7, body := FuncBody.stmts (fBody 5 7), scope := fScope 5 7, globals := 3, closure := [], defaults := PySem.Value.none, kwdefaults := PySem.Value.none, pyModule := PySem.Value.str (PySem.Str.ofString "gateloom.scopes") 248, code := PySem.Value.ref 116 } }) ::
  (nat_lit 123, { cls := PySem.Value.type "code", data := PySem.Data.fields #[PySem.Value.str (PySem.Str.ofString "answers_to") 341, PySem.Value.str (PySem.Str.ofString "Scope.answers_to") 342, PySem.Value.str (PySem.Str.ofString "/claim/cut.py") 343, PySem.Value.int 86 0, PySem.Value.int 2 0, PySem.Value.int 0 0, PySem.Value.int 0 0, PySem.Value.int 3 0, PySem.Value.ref 118, PySem.Value.bool true, PySem.Value.int 181 0, PySem.Value.ref 119, PySem.Value.none, PySem.Value.ref 120, PySem.Value.ref 121, PySem.Value.ref 122, PySem.Value.int 346 0, PySem.Value.int 86 0, PySem.Value.str (PySem.Str.ofString "/claim/cut.py") 347] }) ::
  (nat_lit 124, { cls := PySem.Value.type "function", data := PySem.Data.func { name := PySem.Str.ofString "answers_to", qualname := PySem.Str.ofString "Scope.answers_to", params := fParams 5 8, body := FuncBody.stmts (fBody 5 8), scope := fScope 5 8, globals := 3, closure := [], defaults := PySem.Value.none, kwdefaults := PySem.Value.none, pyModule := PySem.Value.str (PySem.Str.ofString "gateloom.scopes") 248, code := PySem.Value.ref 123 } }) ::
  (nat_lit 126, { cls := PySem.Value.type "dict", data := PySem.Data.dict #[{ hash := PySem.PyData.keyHash P (PySem.Str.ofString "__module__"), key := PySem.Value.str (PySem.Str.ofString "__module__") 257, val := PySem.Value.str (PySem.Str.ofString "gateloom.scopes") 248 }, { hash := PySem.PyData.keyHash P (PySem.Str.ofString "__firstlineno__"), key := PySem.Value.str (PySem.Str.ofString "__firstlineno__") 261, val := PySem.Value.int 14 260 }, { hash := PySem.PyData.keyHash P (PySem.Str.ofString "__init__"), key := PySem.Value.str (PySem.Str.ofString "__init__") 272, val := PySem.Value.ref 68 }, { hash := PySem.PyData.keyHash P (PySem.Str.ofString "child"), key := PySem.Value.str (PySem.Str.ofString "child") 283, val := PySem.Value.ref 75 }, { hash := PySem.PyData.keyHash P (PySem.Str.ofString "declare"), key := PySem.Value.str (PySem.Str.ofString "declare") 293, val := PySem.Value.ref 82 }, { hash := PySem.PyData.keyHash P (PySem.Str.ofString "module_scope"), key := PySem.Value.str (PySem.Str.ofString "module_scope") 300, val := PySem.Value.ref 89 }, { hash := PySem.PyData.keyHash P (PySem.Str.ofString "lookup"), key := PySem.Value.str (PySem.Str.ofString "lookup") 309, val := PySem.Value.ref 96 }, { hash := PySem.PyData.keyHash P (PySem.Str.ofString "lookup_routine"), key := PySem.Value.str (PySem.Str.ofString "lookup_routine") 317, val := PySem.Value.ref 103 }, { hash := PySem.PyData.keyHash P (PySem.Str.ofString "descend"), key := PySem.Value.str (PySem.Str.ofString "descend") 329, val := PySem.Value.ref 110 }, { hash := PySem.PyData.keyHash P (PySem.Str.ofString "resolve"), key := PySem.Value.str (PySem.Str.ofString "resolve") 340, val := PySem.Value.ref 117 }, { hash := PySem.PyData.keyHash P (PySem.Str.ofString "answers_to"), key := PySem.Value.str (PySem.Str.ofString "answers_to") 348, val := PySem.Value.ref 124 }, { hash := PySem.PyData.keyHash P (PySem.Str.ofString "__static_attributes__"), key := PySem.Value.str (PySem.Str.ofString "__static_attributes__") 358, val := PySem.Value.ref 125 }, { hash := PySem.PyData.keyHash P (PySem.Str.ofString "__dict__"), key := PySem.Value.str (PySem.Str.ofString "__dict__") 360, val := PySem.Value.ref 128 }, { hash := PySem.PyData.keyHash P (PySem.Str.ofString "__weakref__"), key := PySem.Value.str (PySem.Str.ofString "__weakref__") 362, val := PySem.Value.ref 129 }, { hash := PySem.PyData.keyHash P (PySem.Str.ofString "__doc__"), key := PySem.Value.str (PySem.Str.ofString "__doc__") 363, val := PySem.Value.none }] 4 }) ::
  (nat_lit 127, { cls := PySem.Value.type "type", data := PySem.Data.cls { name := PySem.Str.ofString "Scope", bases := [PySem.Value.type "object"], mro := [PySem.Value.ref 127, PySem.Value.type "object"], ns := 126, qualname := PySem.Str.ofString "Scope" }, slots := #[none, none, some (PySem.Value.str (PySem.Str.ofString "Scope") 250), some (PySem.Value.str (PySem.Str.ofString "Scope") 258), some (PySem.Value.builtin "object.__new__"), some (PySem.Value.bool true)] }) ::
  (nat_lit 144, { cls := PySem.Value.type "code", data := PySem.Data.fields #[PySem.Value.str (PySem.Str.ofString "__init__") 380, PySem.Value.str (PySem.Str.ofString "Routine.__init__") 381, PySem.Value.str (PySem.Str.ofString "/claim/cut.py") 382, PySem.Value.int 91 0, PySem.Value.int 6 0, PySem.Value.int 0 0, PySem.Value.int 0 0, PySem.Value.int 3 0, PySem.Value.ref 139, PySem.Value.bool true, PySem.Value.int 181 0, PySem.Value.ref 140, PySem.Value.none, PySem.Value.ref 141, PySem.Value.ref 142, PySem.Value.ref 143, PySem.Value.int 389 0, PySem.Value.int 91 0, PySem.Value.str (PySem.Str.ofString "/claim/cut.py") 390] }) ::
  (nat_lit 145, { cls := PySem.Value.type "function", data := PySem.Data.func { name := PySem.Str.ofString "__init__", qualname := PySem.Str.ofString "Routine.__init__", params := fParams 7 0, body := FuncBody.stmts (fBody 7 0), scope := fScope 7 0, globals := 3, closure := [], defaults := PySem.Value.none, kwdefaults := PySem.Value.none, pyModule := PySem.Value.str (PySem.Str.ofString "gateloom.design") 366, code := PySem.Value.ref 144 } }) ::
  (nat_lit 154, { cls := PySem.Value.type "dict", data := PySem.Data.dict #[{ hash := PySem.PyData.keyHash P (PySem.Str.ofString "__module__"), key := PySem.Value.str (PySem.Str.ofString "__module__") 375, val := PySem.Value.str (PySem.Str.ofString "gateloom.design") 366 }, { hash := PySem.PyData.keyHash P (PySem.Str.ofString "__firstlineno__"), key := PySem.Value.str (PySem.Str.ofString "__firstlineno__") 379, val := PySem.Value.int 89 378 }, { hash := PySem.PyData.keyHash P (PySem.Str.ofString "__init__"), key := PySem.Value.str (PySem.Str.ofString "__init__") 391, val := PySem.Value.ref 145 }, { hash := PySem.PyData.keyHash P (PySem.Str.ofString "inputs"), key := PySem.Value.str (PySem.Str.ofString "inputs") 398, val := PySem.Value.ref 152 }, { hash := PySem.PyData.keyHash P (PySem.Str.ofString "__static_attributes__"), key := PySem.Value.str (PySem.Str.ofString "__static_attributes__") 413, val := PySem.Value.ref 153 }, { hash := PySem.PyData.keyHash P (PySem.Str.ofString "__dict__"), key := PySem.Value.str (PySem.Str.ofString "__dict__") 415, val := PySem.Value.ref 156 }, { hash := PySem.PyData.keyHash P (PySem.Str.ofString "__weakref__"), key := PySem.Value.str (PySem.Str.ofString "__weakref__") 417, val := PySem.Value.ref 157 }, { hash := PySem.PyData.keyHash P (PySem.Str.ofString "__doc__"), key := PySem.Value.str (PySem.Str.ofString "__doc__") 418, val := PySem.Value.none }] 4 }) ::
  (nat_lit 155, { cls := PySem.Value.type "type", data := PySem.Data.cls { name := PySem.Str.ofString "Routine", bases := [PySem.Value.type "object"], mro := [PySem.Value.ref 155, PySem.Value.type "object"], ns := 154, qualname := PySem.Str.ofString "Routine" }, slots := #[none, none, some (PySem.Value.str (PySem.Str.ofString "Routine") 368), some (PySem.Value.str (PySem.Str.ofString "Routine") 376), some (PySem.Value.builtin "object.__new__"), some (PySem.Value.bool true)] }) ::
  (nat_lit 172, { cls := PySem.Value.type "code", data := PySem.Data.fields #[PySem.Value.str (PySem.Str.ofString "__init__") 433, PySem.Value.str (PySem.Str.ofString "Design.__init__") 434, PySem.Value.str (PySem.Str.ofString "/claim/cut.py") 435, PySem.Value.int 111 0, PySem.Value.int 1 0, PySem.Value.int 0 0, PySem.Value.int 0 0, PySem.Value.int 3 0, PySem.Value.ref 167, PySem.Value.bool true, PySem.Value.int 181 0, PySem.Value.ref 168, PySem.Value.none, PySem.Value.ref 169, PySem.Value.ref 170, PySem.Value.ref 171, PySem.Value.int 437 0, PySem.Value.int 111 0, PySem.Value.str (PySem.Str.ofString "/claim/cut.py") 438] }) ::
  (nat_lit 173, { cls := PySem.Value.type "function", data := PySem.Data.func { name := PySem.Str.ofString "__init__", qualname := PySem.Str.ofString "Design.__init__", params := fParams 8 0, body := FuncBody.stmts (fBody 8 0), scope := fScope 8 0, globals := 3, closure := [], defaults := PySem.Value.none, kwdefaults := PySem.Value.none, pyModule := PySem.Value.str (PySem.Str.ofString "gateloom.design") 366, code := PySem.Value.ref 172 } }) ::
  (nat_lit 186, { cls := PySem.Value.type "code", data := PySem.Data.fields #[PySem.Value.str (PySem.Str.ofString "add_scope") 454, PySem.Value.str (PySem.Str.ofString "Design.add_scope") 455, PySem.Value.str (PySem.Str.ofString "/claim/cut.py") 456, PySem.Value.int 128 0, PySem.Value.int 2 0, PySem.Value.int 0 0, PySem.Value.int 0 0, PySem.Value.int 3 0, PySem.Value.ref 181, PySem.Value.bool true, PySem.Value.int 181 0, PySem.Value.ref 182, PySem.Value.none, PySem.Value.ref 183, PySem.Value.ref 184, PySem.Value.ref 185, PySem.Value.int 459 0, PySem.Value.int 128 0, PySem.Value.str (PySem.Str.ofString "/claim/cut.py") 460] }) ::
  (nat_lit 187, { cls := PySem.Value.type "function", data := PySem.Data.func { name := PySem.Str.ofString "add_scope", qualname := PySem.Str.ofString "Design.add_scope", params := fParams 8 2, body := FuncBody.stmts (fBody 8 2), scope := fScope 8 2, globals := 3, closure := [], defaults := PySem.Value.none, kwdefaults := PySem.Value.none, pyModule := PySem.Value.str (PySem.Str.ofString "gateloom.design") 366, code := PySem.Value.ref 186 } }) ::
  (nat_lit 193, { cls := PySem.Value.type "code", data := PySem.Data.fields #[PySem.Value.str (PySem.Str.ofString "add_routine") 462, PySem.Value.str (PySem.Str.ofString "Design.add_routine") 463, PySem.Value.str (PySem.Str.ofString "/claim/cut.py") 464, PySem.Value.int 132 0, PySem.Value.int 5 0, PySem.Value.int 0 0, PySem.Value.int 0 0, PySem.Value.int 3 0, PySem.Value.ref 188, PySem.Value.bool true, PySem.Value.int 181 0, PySem.Value.ref 189, PySem.Value.none, PySem.Value.ref 190, PySem.Value.ref 191, PySem.Value.ref 192, PySem.Value.int 471 0, PySem.Value.int 132 0, PySem.Value.str (PySem.Str.ofString "/claim/cut.py") 472] }) ::
  (nat_lit 194, { cls := PySem.Value.type "function", data := PySem.Data.func { name := PySem.Str.ofString "add_routine", qualname := PySem.Str.ofString "Design.add_routine", params := fParams 8 3, body := FuncBody.stmts (fBody 8 3), scope := fScope 8 3, globals := 3, closure := [], defaults := PySem.Value.none, kwdefaults := PySem.Value.none, pyModule := PySem.Value.str (PySem.Str.ofString "gateloom.design") 366, code := PySem.Value.ref 193 } }) ::
  (nat_lit 217, { cls := PySem.Value.type "dict", data := PySem.Data.dict #[{ hash := PySem.PyData.keyHash P (PySem.Str.ofString "__module__"), key := PySem.Value.str (PySem.Str.ofString "__module__") 428, val := PySem.Value.str (PySem.Str.ofString "gateloom.design") 366 }, { hash := PySem.PyData.keyHash P (PySem.Str.ofString "__firstlineno__"), key := PySem.Value.str (PySem.Str.ofString "__firstlineno__") 432, val := PySem.Value.int 109 431 }, { hash := PySem.PyData.keyHash P (PySem.Str.ofString "__init__"), key := PySem.Value.str (PySem.Str.ofString "__init__") 439, val := PySem.Value.ref 173 }, { hash := PySem.PyData.keyHash P (PySem.Str.ofString "add_signal"), key := PySem.Value.str (PySem.Str.ofString "add_signal") 453, val := PySem.Value.ref 180 }, { hash := PySem.PyData.keyHash P (PySem.Str.ofString "add_scope"), key := PySem.Value.str (PySem.Str.ofString "add_scope") 461, val := PySem.Value.ref 187 }, { hash := PySem.PyData.keyHash P (PySem.Str.ofString "add_routine"), key := PySem.Value.str (PySem.Str.ofString "add_routine") 473, val := PySem.Value.ref 194 }, { hash := PySem.PyData.keyHash P (PySem.Str.ofString "add_process"), key := PySem.Value.str (PySem.Str.ofString "add_process") 484, val := PySem.Value.ref 201 }, { hash := PySem.PyData.keyHash P (PySem.Str.ofString "find"), key := PySem.Value.str (PySem.Str.ofString "find") 492, val := PySem.Value.ref 208 }, { hash := PySem.PyData.keyHash P (PySem.Str.ofString "routine"), key := PySem.Value.str (PySem.Str.ofString "routine") 501, val := PySem.Value.ref 215 }, { hash := PySem.PyData.keyHash P (PySem.Str.ofString "__static_attributes__"), key := PySem.Value.str (PySem.Str.ofString "__static_attributes__") 514, val := PySem.Value.ref 216 }, { hash := PySem.PyData.keyHash P (PySem.Str.ofString "__dict__"), key := PySem.Value.str (PySem.Str.ofString "__dict__") 516, val := PySem.Value.ref 219 }, { hash := PySem.PyData.keyHash P (PySem.Str.ofString "__weakref__"), key := PySem.Value.str (PySem.Str.ofString "__weakref__") 518, val := PySem.Value.ref 220 }, { hash := PySem.PyData.keyHash P (PySem.Str.ofString "__doc__"), key := PySem.Value.str (PySem.Str.ofString "__doc__") 519, val := PySem.Value.none }] 4 }) ::
  (nat_lit 218, { cls := PySem.Value.type "type", data := PySem.Data.cls { name := PySem.Str.ofString "Design", bases := [PySem.Value.type "object"], mro := [PySem.Value.ref 218, PySem.Value.type "object"], ns := 217, qualname := PySem.Str.ofString "Design" }, slots := #[none, none, some (PySem.Value.str (PySem.Str.ofString "Design") 421), some (PySem.Value.str (PySem.Str.ofString "Design") 429), some (PySem.Value.builtin "object.__new__"), some (PySem.Value.bool true)] }) ::
  (nat_lit 228, { cls := PySem.Value.type "code", data := PySem.Data.fields #[PySem.Value.str (PySem.Str.ofString "_law_take") 524, PySem.Value.str (PySem.Str.ofString "_law_take") 525, PySem.Value.str (PySem.Str.ofString "/claim/cut.py") 526, PySem.Value.int 151 0, PySem.Value.int 2 0, PySem.Value.int 0 0, PySem.Value.int 0 0, PySem.Value.int 3 0, PySem.Value.ref 223, PySem.Value.bool true, PySem.Value.int 181 0, PySem.Value.ref 224, PySem.Value.none, PySem.Value.ref 225, PySem.Value.ref 226, PySem.Value.ref 227, PySem.Value.int 530 0, PySem.Value.int 151 0, PySem.Value.str (PySem.Str.ofString "/claim/cut.py") 531] }) ::
  (nat_lit 229, { cls := PySem.Value.type "function", data := PySem.Data.func { name := PySem.Str.ofString "_law_take", qualname := PySem.Str.ofString "_law_take", params := tkParams, body := FuncBody.stmts tkBody, scope := tkScope, globals := 3, closure := [], defaults := PySem.Value.none, kwdefaults := PySem.Value.none, pyModule := PySem.Value.str (PySem.Str.ofString "law_pq0456_01") 522, code := PySem.Value.ref 228 } }) :: []) rfl
noncomputable def vw : Program := view Challenge.pw_pq0456_01 [0, 2, 3, 5, 7, 8, 10, 11]
noncomputable def lawRec : DefRec := { name := Str.ofString "law", params := fnParams lawDef, body := fnBody lawDef, scope := fnScope lawDef, pos := fnPos lawDef }
abbrev LawWalk : Prop := WalkO vw [Str.ofString "GateloomError"] (XL vw []) (kHook K0 [2, 3, 29, 35, 36, 38, 39, 51, 52, 67, 68, 74, 75, 81, 82, 95, 96, 109, 110, 116, 117, 123, 124, 126, 127, 144, 145, 154, 155, 172, 173, 186, 187, 193, 194, 217, 218, 228, 229] (fun _ => by kernel_rfl)).says Challenge.rw_pq0456_01.row.toRowW lawRec [] fun f vs => call f vs
end G456
namespace G456
open PySem PySem.W PyProof.Rows PySem.Calls

abbrev TT (mean : ExcName → Option Value) (mg mb : Str → Option Value) (h : Heap) : Prop :=
  Top vw (looseW vw [Str.ofString "GateloomError"]) mean mg mb h

structure Src (q : Addr) (ol oq : Obj) : Prop where
  is : ∃ (a b : Int) (ta tb : Tok) (n m : Nat) (vs : List Value) (ns : List Int), ol = W.listOf #[.ref q, .int a ta, .int b tb] n ∧ oq = W.listOf vs.toArray m ∧ IntsAre vs ns ∧ vs.length ≤ 100 ∧ 0 ≤ b ∧ b < 2147483563 ∧ 0 ≤ a

section
variable {prog : Program} {w : World} {A : Around} {E : Value → Shared → Prop} {s : Shared} {h₀ : Heap} {L D : Addr} {m : Str → Option Value} {news news' : List (Addr × Obj)}
theorem set_mixed {its its' : List Value} {n : Nat} {k : Int} {t : Tok} {v : Value} {Q : Unit → Shared → Prop} (F : Fr h₀ L s.heap m) (N : News h₀ L s.heap news) (e : ki_setL its k.toNat v = some its') (U : Upd D (listOf its.toArray n) (listOf its'.toArray n) news news')
    (h0 : 0 ≤ k) (hfit : k < 2 ^ 63) (h : ∀ h', Fr h₀ L h' m → News h₀ L h' news' → Q () { s with heap := h' }) :
    wpAny (model prog w) A (setItem (.ref D) (.int k t) v) Q E s := by
  obtain ⟨pre, post, rfl, rfl, a, b⟩ := U.split
  have z := N (D, listOf its.toArray n) (List.mem_append.mpr (.inr (.head _)))
  obtain ⟨e1, e2⟩ := ki_setL_spec e
  refine ki_setAt z.1 h0 hfit (by rw [List.size_toArray]; omega) (h _ (F.change (Heap.SameBut.update ..) z.2.1 z.2.2) (ki_turn _ N a b ?_ ?_))
  · apply Array.toList_inj.mp
    simpa using e1
  · rw [← e1]; simp
theorem pop_front {y : Value} {r : List Value} {n : Nat} {u : Tok} {Q : Value → Shared → Prop} (F : Fr h₀ L s.heap m) (N : News h₀ L s.heap news) (U : Upd D (listOf (y :: r).toArray n) (listOf r.toArray (n + 1)) news news')
    (hz : (y :: r).length ≤ 101) (h : ∀ h', Fr h₀ L h' m → News h₀ L h' news' → Q y { s with heap := h' }) : wpAny (model prog w) A (call (.builtin "list.pop") [.ref D, .int 0 u]) Q E s :=
  kl_popAt (its := (y :: r).toArray) (k := 0) (p := []) (q := r) (y := y) F N (by rfl) (by simp [seqIndex?]) rfl U (by rw [sizeLine_eq]; exact Nat.le_trans hz (by decide : 101 ≤ 16777216)) h
theorem pop_ints {vs : List Value} {ns : List Int} {n : Nat} {u : Tok} {Q : Value → Shared → Prop} (F : Fr h₀ L s.heap m) (N : News h₀ L s.heap news) (hi : IntsAre vs ns) (hne : decide (ns = []) = false) (U : Upd D (listOf vs.toArray n) (listOf vs.tail.toArray (n + 1)) news news')
    (hz : vs.length ≤ 101) (h : ∀ h' i t, Fr h₀ L h' m → News h₀ L h' news' → IntsAre vs.tail ns.tail → Q (.int i t) { s with heap := h' }) : wpAny (model prog w) A (call (.builtin "list.pop") [.ref D, .int 0 u]) Q E s := by
  cases hi with
  | nil => simp at hne
  | cons k t r => exact pop_front F N U hz fun h' F' N' => h h' k t F' N' r
theorem News.sub {n1 n2 : List (Addr × Obj)} {h : Heap} (N : News h₀ L h n1) (k : ∀ p ∈ n2, p ∈ n1) : News h₀ L h n2 := fun p hp => N p (k p hp)
end

end G456
namespace G456
open PySem PySem.W PyProof.Rows PySem.Calls Builtin Builtin.ObjectAttr

section
variable {prog : Program} {w : World} {A : Around} {E : Value → Shared → Prop} {h : Heap} {g : Array GenState} {d : Drawn} {t : Nat} {os : OsState}
variable {nm q : Str} {C N : Addr} {bs bm bmB : List Value} {hdct : Bool} {sn : List Str} {sub : List Value} {ab : Bool} {col : Option Bool} {dd : Option Addr} {k0 k1 k2 k3 k5 : Option Value} {B newId initId : String} {K : Frag}

structure TailOk (B : String) (bm : List Value) : Prop where
  hasB : bm.contains (.type B) = true
  hasBase : bm.contains (.type "BaseException") = true
  noAttr : bm.contains (.type "AttributeError") = false
  noName : bm.contains (.type "NameError") = false

theorem excW_check_new (F : ExcBaseFacts B newId initId bmB) (T : TailOk B bm) {M : Model} {rest : List Value} {Q : Unit → Shared → Prop} (hC : h.get? C = some (excClassObj nm q C N bs bm hdct sn sub ab col dd k0 k1 k2 k3 k5 newId))
    (hq : Q () ⟨h, g, d, t, os⟩) : wpAny M A (checkBuiltinCall newId ⟨.ref C :: rest, []⟩) Q E ⟨h, g, d, t, os⟩ := by
  have hcont : (Value.ref C :: bm).contains (.type B) = true := by rw [List.contains_cons, T.hasB, Bool.or_true]
  have hstar := F.noStar
  simp only [checkBuiltinCall, F.newKind, F.newSplit, F.newRow]
  repeat (first | refine wpAny_loadPart_at hC ?_ | (refine wpAny_isSubtype_exc hC ?_; rw [hcont]) | refine wpAny_staticBase_exc hC ?_ | refine wpAny_madeBy_exc hC ?_ | simp only [bne_self_eq_false, Bool.false_eq_true, if_false] | wp_step)
  exact hq

theorem excW_new {R : Result → Shared → Prop} (F : ExcBaseFacts B newId initId bmB) (T : TailOk B bm) {rest : List Value} (hC : h.get? C = some (excClassObj nm q C N bs bm hdct sn sub ab col dd k0 k1 k2 k3 k5 newId))
    (hq : R (.ok (.ret (.ref (h.objs.size + 1)))) ⟨(h.push { cls := .type "tuple", data := .seq rest.toArray }).push
      { cls := .ref C, data := .fields #[.ref h.objs.size, .none, .none, .none, .bool false, .none] }, g, d, t, os⟩) (hrest : rest.length ≤ sizeLine) :
    codeAny (model prog w) A (.builtin newId ⟨.ref C :: rest, []⟩) R ⟨h, g, d, t, os⟩ := by
  have hends := F.ends
  have hcB : (Value.ref C :: bm).contains (.type B) = true := by rw [List.contains_cons, T.hasB, Bool.or_true]
  have hcA : (Value.ref C :: bm).contains (.type "AttributeError") = false := by rw [List.contains_cons, T.noAttr]; rfl
  have hcN : (Value.ref C :: bm).contains (.type "NameError") = false := by rw [List.contains_cons, T.noName]; rfl
  refine codeAny_builtinAt F.entry ?_
  unfold Builtin.«BaseException.__new__»
  refine PySem.wpAt_bind ?_
  show PySem.wpAt _ _ _ (stack >>= _) _ _ _
  refine PySem.wpAt_bind (PySem.wpAt_stack fun p below => PySem.wpAt_of_wpAny ?_)
  wp_walk
  refine PySem.wpAt_of_wpAny ?_
  rw [F.owner]
  repeat (first | with_reducible refine wpAny_madeHere_exc F.canon hC ?_ | with_reducible refine wpAny_loadPart_at hC ?_ | (with_reducible refine wpAny_isSubtype_exc hC ?_; first | rw [hcB] | rw [hcA] | rw [hcN]) | wp_step)
  show R _ _
  rw [Heap.size_push]
  exact hq

theorem excW_type_call (F : ExcBaseFacts B newId initId bmB) (T : TailOk B bm) {rest : List Value} {fI : Addr} {Q : Fin → Shared → Prop}
    (X : K.In h) (hC : h.get? C = some (excClassObj nm q C N bs bm hdct sn sub ab col dd k0 k1 k2 k3 k5 newId)) (hi : findIn K (.ref C) "__init__" = some (some (.ref fI))) (hf : typeIn K (.ref fI) = some (.type "function"))
    (hq : ∀ h' e, Heap.MadeExcOf h h' e (.ref C) rest → e < h'.objs.size →
      wpAny (model prog w) A (call (.ref fI) (.ref e :: rest)) (fun r s' => r = .none ∧ Q (.done (.ret (.ref e))) s') E ⟨h', g, d, t, os⟩) (hrest : rest.length ≤ sizeLine) :
    wpAny (model prog w) A (Builtin.«type.__call__» ⟨.ref C :: rest, []⟩) Q E ⟨h, g, d, t, os⟩ := by
  repeat (first | with_reducible refine wpAny_loadPart_at hC ?_ | with_reducible refine wpAny_madeBy_exc hC ?_ | wp_step)
  refine codeAny_call_builtin_code (Code.quiet_builtin _ F.quiet) (excW_check_new F T hC ?_)
  refine excW_new F T hC ?_ hrest
  show wpAny _ _ _ _ _ _
  have up : ∀ b o, h.get? b = some o → ((h.push { cls := .type "tuple", data := .seq rest.toArray }).push { cls := .ref C, data := .fields #[.ref h.objs.size, .none, .none, .none, .bool false, .none] }).get? b = some o :=
    fun b o hb => Heap.get?_push_of_some _ (Heap.get?_push_of_some _ hb)
  have hC₁ := up _ _ hC
  have X₁ := X.keeps up
  have hget : ((h.push { cls := .type "tuple", data := .seq rest.toArray }).push
      { cls := .ref C, data := .fields #[.ref h.objs.size, .none, .none, .none, .bool false, .none] }).get? (h.objs.size + 1) = some
      { cls := .ref C, data := .fields #[.ref h.objs.size, .none, .none, .none, .bool false, .none] } := by heap_get
  have hcC : (Value.ref C :: bm).contains (.ref C) = true := by simp
  unfold isInstance
  repeat (first | with_reducible refine wpAny_loadPart_at hget ?_ | (with_reducible refine wpAny_isSubtype_exc hC₁ ?_; rw [hcC]) | wp_step)
  show wpAny _ _ (typeLookup (.ref C) _) _ _ _
  refine (looks_findIn X₁ hi).at ?_
  refine wpAny_holding (wpAny_bind ?_)
  refine (bind_fn X₁ _ hf).at ?_
  refine wpAny_bind (wpAny_mono (hq _ (h.objs.size + 1) ⟨up, Heap.get?_none_of_le (Nat.le_succ _), h.objs.size, hget, Heap.get?_none_of_le (Nat.le_refl _), ?_⟩ (Heap.lt_size hget)) (fun r s' hr => ?_) fun _ _ x => x)
  · exact Heap.get?_push_of_some _ (Heap.get?_push_at rfl rfl)
  · obtain ⟨rfl, hQ⟩ := hr
    wp_walk
    exact hQ

theorem excW_call (F : ExcBaseFacts B newId initId bmB) (T : TailOk B bm) {rest : List Value} {fI : Addr} {Q : Value → Shared → Prop}
    (X : K.In h) (hC : h.get? C = some (excClassObj nm q C N bs bm hdct sn sub ab col dd k0 k1 k2 k3 k5 newId)) (hi : findIn K (.ref C) "__init__" = some (some (.ref fI))) (hf : typeIn K (.ref fI) = some (.type "function"))
    (hq : ∀ h' e, Heap.MadeExcOf h h' e (.ref C) rest → e < h'.objs.size →
      wpAny (model prog w) (A.under (.builtin "type.__call__" ⟨.ref C :: rest, []⟩)) (call (.ref fI) (.ref e :: rest)) (fun r s' => r = .none ∧ Q (.ref e) s') E ⟨h', g, d, t, os⟩) (hrest : rest.length ≤ sizeLine) :
    wpAny (model prog w) A (call (.ref C) rest) Q E ⟨h, g, d, t, os⟩ := by
  have f1 := tc_lookup
  have f2 := tc_bind (.ref C)
  have hT : (⟨h, g, d, t, os⟩ : Shared).TypeIs (.ref C) "type" := ⟨_, hC, rfl⟩
  refine wpAny_call (codeAny_of_tree ?_)
  show wpAny _ _ (callAny (.ref C) _) _ _ _
  repeat (any_goals (first | assumption | with_reducible refine wpAny_loadPart_at hC ?_ | wp_step))
  refine ⟨rfl, ?_⟩
  refine codeAny_call_builtin_at (Code.quiet_builtin _ (by decide +kernel)) entry_typeCall (wpAny_check_type_call_sub hC (excW_type_call F T X hC hi hf (fun h' e hm hl => ?_) hrest))
  exact hq h' e hm hl
end
end G456
namespace G456
open PySem PySem.W PyProof.Rows PySem.Calls Builtin Builtin.ObjectAttr

noncomputable abbrev excO (C : Addr) (dx : Option Addr) (vs : Array Value) : Obj := ⟨.ref C, dx, .fields vs, #[]⟩

section
variable {prog : Program} {w : World} {A : Around} {E : Value → Shared → Prop} {s : Shared} {h₀ h : Heap} {L C x dx : Addr} {m : Str → Option Value} {K : Frag} {news pre post : List (Addr × Obj)} {R : Result → Shared → Prop} {name : Str} {v : Value} {vs : Array Value}

theorem refuse_exc (self : Value) : refuseLoop self "__setattr__" [.type "Exception", .type "BaseException", .type "object"] = pure () := by kernel_rfl
theorem refuse_own (self : Value) {a b : Addr} : refuseLoop self "__setattr__" [.ref a, .ref b, .type "Exception", .type "BaseException", .type "object"] = pure () := by
  rw [refuseLoop_ref, refuseLoop_ref]; exact refuse_exc self

def excMro (K : Frag) (C : Addr) : Prop := ∃ cd a b, clsIn K C = some cd ∧ cd.hasDict = true ∧ cd.mro = [.ref a, .ref b, .type "Exception", .type "BaseException", .type "object"]
theorem exc_osa_open {ox : Obj} {od : Option Obj} {tk : Tok} (X : K.In s.heap) (I : InstAt s.heap x ox C od) (hp : excMro K C) (ht : findIn K (.ref C) name = some none)
    (h : ∀ b, wpAny (model prog w) A.in1 (storeInOwnDict (.ref x) (.ref C) (.str name tk) name v b)
      (fun fin s' => match fin with | .done f => R (.ok f) s' | .again c' => c'.quiet = true ∧ codeAny (model prog w) A c' R s') (fun e s' => R (.error e) s') s) :
    codeAny (model prog w) A (.call (.builtin "object.__setattr__") ⟨[.ref x, .str name tk, v], []⟩) R s := by
  have SF := PySem.F.store_object
  obtain ⟨cd, a, b, hc, hh, hm⟩ := id hp
  have sub : Looks (model prog w) s.heap (isInstance (.ref x) (.type "object")) true := I.type.andThen (looks_mroIn X (by unfold mroIn; rw [hc, Option.bind_some, hm]; rfl))
  refine codeAny_call_builtin SF.slot.plain SF.entry (@check_slot (model prog w) _ _ s "object.__setattr__" "object" "__setattr__" (.ref x) [.str name tk, v] [] _ SF.kind SF.split sub (SF.args (.ref x) (.str name tk) v) ?_)
  have hm' : Looks (model prog w) s.heap (mroOf (.ref C)) cd.mro := (looks_clsIn X hc).andThen .now
  have L3 : Looks (model prog w) s.heap (storeTaker? none) none := .now
  rw [osa_eq, refuse_eq]
  refine wpAny_bind (wpAny_bind (I.type.here (wpAny_bind (hm'.here ?_))))
  rw [hm, refuse_own]
  refine wpAny_pure (wpAny_bind (I.type.here (wpAny_bind ((looks_findIn X ht).here (wpAny_bind (L3.here ?_))))))
  exact h _

theorem exc_storeInDict {es es' : List DictEntry} {n n' : Nat} {tk : Tok} {Q : Fin → Shared → Prop} (D : s.heap.get? dx = some (dictOf es n)) (hl : (getL name es).isSome = true)
    (e : (putL name (PyData.keyHash w.params name) (.str name s.toks) v es, putN name es n) = (es', n')) (hz : es'.length ≤ 1000)
    (h : Q (.done (.ret .none)) { s with heap := s.heap.update dx (Obj.putName name (PyData.keyHash w.params name) (.str name s.toks) v), toks := s.toks + 1 }) :
    wpAny (model prog w) A (storeInDict dx (.str name tk) name v) Q E s := by
  obtain ⟨e1, e2⟩ := Prod.mk.inj e
  have e' : Obj.putName name (PyData.keyHash w.params name) (.str name s.toks) v (dictOf es n) = dictOf es' n' := by rw [putName_dict, e1, e2]
  have D' : (s.heap.update dx (Obj.putName name (PyData.keyHash w.params name) (.str name s.toks) v)).get? dx = some (dictOf es' n') := by
    have := Heap.get?_update_self (Obj.putName name (PyData.keyHash w.params name) (.str name s.toks) v) D (by rw [e']; rfl)
    rw [this, e']
  unfold storeInDict
  refine wpAny_bind (wpAny_pure (wpAny_bind ?_))
  unfold nsSet
  refine wpAny_bind (wpAny_bind (wpAny_askSetting (wpAny_pure (wpAny_bind (wpAny_mkText (wpAny_bind (wpAny_loadPart D ?_)))))))
  have c : (!es.toArray.any (·.key.isStr name) && es.toArray.any (·.refKey)) = false := by
    rw [← Array.any_toList, ← Array.any_toList]
    unfold getL at hl
    split at hl
    · rename_i en he
      rw [List.any_eq_true.mpr ⟨en, List.mem_of_find?_eq_some he, List.find?_some he⟩]; rfl
    · split at hl
      · cases hl
      · rename_i z; rw [Bool.not_eq_true] at z; rw [z, Bool.and_false]
  dsimp only
  rw [aRefKeyMayBeTheName_at, c]
  refine wpAny_updatePart D ?_
  refine wpAny_bind (wpAny_lookBehind D' (pastItsLine_dict (by rw [List.size_toArray, sizeLine_eq]; omega)) ?_)
  exact wpAny_pure h

theorem exc_inst {sl : Array (Option Value)} {od : Obj} (N : News h₀ L h news) (h1 : (x, (⟨.ref C, some dx, .fields vs, sl⟩ : Obj)) ∈ news) (h2 : (dx, od) ∈ news) :
    InstAt h x ⟨.ref C, some dx, .fields vs, sl⟩ C (some od) := ⟨(N _ h1).1, rfl, rfl, (N _ h2).1⟩
theorem exc_inst0 {sl : Array (Option Value)} (N : News h₀ L h news) (h1 : (x, (⟨.ref C, none, .fields vs, sl⟩ : Obj)) ∈ news) :
    InstAt h x ⟨.ref C, none, .fields vs, sl⟩ C none := ⟨(N _ h1).1, rfl, rfl, trivial⟩

theorem exc_set0 {Q : Unit → Shared → Prop} (F : Fr h₀ L s.heap m) (X₀ : K.In h₀) (N : News h₀ L s.heap (pre ++ (x, excO C none vs) :: post)) (h1 : ∀ p ∈ pre, p.1 ≠ x) (h2 : ∀ p ∈ post, p.1 ≠ x)
    (hs : findIn K (.ref C) "__setattr__" = some (some (.builtin "object.__setattr__"))) (hp : excMro K C) (ht : findIn K (.ref C) name = some none)
    (h : ∀ d h', Fr h₀ L h' m → News h₀ L h' ((d, dictOf [⟨PyData.keyHash w.params name, .str name (s.toks + 1), v⟩] 1) :: (pre ++ (x, excO C (some d) vs) :: post)) → (∀ p ∈ (pre ++ (x, excO C none vs) :: post), p.1 < d) → Q () { s with heap := h', toks := s.toks + 2 }) :
    wpAny (model prog w) A (setAttr (.ref x) name v) Q E s := by
  have X := X₀.keeps F.keep
  have hx : (x, excO C none vs) ∈ pre ++ (x, excO C none vs) :: post := by simp
  have I := exc_inst0 N hx
  obtain ⟨cd, a, b, hc, hh, hm⟩ := id hp
  refine set_plain X I hs (exc_osa_open (s := { s with toks := s.toks + 1 }) X I hp ht fun bb => ?_)
  obtain ⟨hp', g, d, t, os⟩ := s
  dsimp only at F N X I ⊢
  have Fp := F.push (emptyDict)
  have Np := N.push F emptyDict
  have lt : ∀ p ∈ pre ++ (x, excO C none vs) :: post, p.1 < hp'.objs.size := fun p hp => Heap.lt_size (N p hp).1
  have hxs : x < hp'.objs.size := lt _ hx
  obtain ⟨F1, N1⟩ := news_upd (f := fun o : Obj => { o with dict := some hp'.objs.size }) (o' := excO C (some hp'.objs.size) vs) (pre := (hp'.objs.size, emptyDict) :: pre) Fp Np
    (fun p hp => by
      rcases List.mem_cons.mp hp with rfl | hp
      · exact Nat.ne_of_gt hxs
      · exact h1 p hp) h2 rfl rfl
  have D0 : ((hp'.push emptyDict).update x fun o => { o with dict := some hp'.objs.size }).get? hp'.objs.size = some (dictOf [] 0) := (N1 _ (.head _)).1
  unfold storeInOwnDict
  refine wpAny_bind (wpAny_pure ?_)
  dsimp only
  refine wpAny_bind ?_
  unfold ownDictForStores instanceDict
  refine wpAny_bind (wpAny_loadPart (N _ hx).1 ?_)
  dsimp only
  refine wpAny_bind ((looks_clsIn X hc).at ?_)
  rw [hh]
  refine wpAny_bind (wpAny_alloc ?_)
  refine wpAny_bind (wpAny_update (Heap.get?_push_of_some _ (N _ hx).1) ?_)
  refine wpAny_pure ?_
  refine exc_storeInDict (es := []) (n := 0) D0 rfl rfl (Nat.le_of_ble_eq_true rfl) ?_
  obtain ⟨F2, N2⟩ := news_upd (f := Obj.putName name (PyData.keyHash w.params name) (.str name (t + 1)) v) (o := dictOf [] 0) (o' := dictOf [⟨PyData.keyHash w.params name, .str name (t + 1), v⟩] 1) (pre := []) F1 N1
    (fun _ hp => nomatch hp) (fun p hp => by
      rcases List.mem_append.mp hp with hp | hp
      · exact Nat.ne_of_lt (lt p (List.mem_append_left _ hp))
      · rcases List.mem_cons.mp hp with rfl | hp
        · exact Nat.ne_of_lt hxs
        · exact Nat.ne_of_lt (lt p (List.mem_append_right _ (.tail _ hp)))) (by rw [putName_dict]; rfl) rfl
  exact h _ _ F2 N2 lt

theorem exc_set1 {Q : Unit → Shared → Prop} {es es' : List DictEntry} {n n' : Nat} {news' : List (Addr × Obj)} (F : Fr h₀ L s.heap m) (X₀ : K.In h₀) (N : News h₀ L s.heap news) (hx : (x, excO C (some dx) vs) ∈ news) (_hdm : (dx, dictOf es n) ∈ news)
    (U : Upd dx (dictOf es n) (dictOf es' n') news news')
    (hs : findIn K (.ref C) "__setattr__" = some (some (.builtin "object.__setattr__"))) (hp : excMro K C) (ht : findIn K (.ref C) name = some none) (hl : (getL name es).isSome = true)
    (e : (putL name (PyData.keyHash w.params name) (.str name (s.toks + 1)) v es, putN name es n) = (es', n')) (hz : es'.length ≤ 1000)
    (h : ∀ h', Fr h₀ L h' m → News h₀ L h' news' → Q () { s with heap := h', toks := s.toks + 2 }) :
    wpAny (model prog w) A (setAttr (.ref x) name v) Q E s := by
  obtain ⟨pre, post, rfl, rfl, h1, h2⟩ := U.split
  have X := X₀.keeps F.keep
  have I := exc_inst N hx (by simp : (dx, dictOf es n) ∈ _)
  obtain ⟨cd, a, b, hc, hh, hm⟩ := id hp
  refine set_plain X I hs (exc_osa_open (s := { s with toks := s.toks + 1 }) X I hp ht fun bb => ?_)
  have D := (N (dx, dictOf es n) (by simp)).1
  obtain ⟨e1, e2⟩ := Prod.mk.inj e
  unfold storeInOwnDict
  refine wpAny_bind (wpAny_pure ?_)
  dsimp only
  refine wpAny_bind ?_
  unfold ownDictForStores instanceDict
  refine wpAny_bind (wpAny_loadPart (N _ hx).1 ?_)
  dsimp only
  refine wpAny_bind ((looks_clsIn X hc).at ?_)
  rw [hh]
  refine wpAny_pure ?_
  refine exc_storeInDict D hl e hz ?_
  obtain ⟨U1, U2⟩ := news_upd (f := Obj.putName name (PyData.keyHash w.params name) (.str name (s.toks + 1)) v) F N h1 h2 (by rw [putName_dict, e1, e2]) rfl
  exact h _ U1 U2
end
end G456
namespace G456
open PySem PySem.W PyProof.Rows PySem.Calls Builtin Builtin.ObjectAttr

section
variable {prog : Program} {w : World} {A : Around} {E : Value → Shared → Prop} {s : Shared} {h₀ h : Heap} {L C x dx : Addr} {m : Str → Option Value} {K : Frag} {news pre post : List (Addr × Obj)} {name : Str} {v : Value} {vs : Array Value}

theorem exc_getattribute {ox : Obj} {od : Option Obj} {tk : Tok} {R : Result → Shared → Prop} (X : K.In s.heap) (I : InstAt s.heap x ox C od) (hp : excMro K C) (hf : findObj K C od name = some (.value v)) (h : R (.ok (.ret v)) s) :
    codeAny (model prog w) A (.call (.builtin "BaseException.__getattribute__") ⟨[.ref x, .str name tk], []⟩) R s := by
  obtain ⟨cd, a, b, hc, hh, hm⟩ := id hp
  have sub : Looks (model prog w) s.heap (isInstance (.ref x) (.type "BaseException")) true := I.type.andThen (looks_mroIn X (by unfold mroIn; rw [hc, Option.bind_some, hm]; rfl))
  refine codeAny_call_builtin F.attr_Exception.ga.plain F.entry_bexc_ga (@check_slot (model prog w) _ _ s "BaseException.__getattribute__" "BaseException" "__getattribute__" (.ref x) [.str name tk] [] _ (by decide +kernel) (by decide +kernel) sub (F.args_bexc_ga (.ref x) (.str name tk)) ?_)
  obtain ⟨hp', g, d, t, os⟩ := s
  have L0 := I.type (M := model prog w)
  have L1 := looks_find (M := model prog w) X I hf
  unfold Builtin.«object.__getattribute__» slotArgs
  refine wpAny_bind (wpAny_pure (wpAny_bind (wpAny_pure (wpAny_bind (L0.at (wpAny_bind (L1.at ?_)))))))
  exact wpAny_pure h

theorem exc_get {ox : Obj} {od : Option Obj} {expr : Bool} {Q : Value → Shared → Prop} (X : K.In s.heap) (I : InstAt s.heap x ox C od) (hp : excMro K C)
    (hga : findIn K (.ref C) "__getattribute__" = some (some (.builtin "BaseException.__getattribute__"))) (hgb : findIn K (.ref C) "__getattr__" = some none)
    (hf : findObj K C od name = some (.value v)) (hh : handedIn v = true) (h : Q v { s with toks := s.toks + 1 }) :
    wpAny (model prog w) A (getAttr (.ref x) name expr) Q E s := by
  obtain ⟨hp', g, d, t, os⟩ := s
  have L0 := I.type (M := model prog w)
  have L1 := looks_findIn (M := model prog w) X hga
  have L2 := looks_findIn (M := model prog w) X hgb
  have hx2 : (Value.builtin "BaseException.__getattribute__" == Value.builtin "object.__getattribute__") = false := by decide +kernel
  unfold getAttr getAttrBy
  refine wpAny_bind (wpAny_mkText (wpAny_holding (wpAny_bind (L0.at (wpAny_bind (L1.at ?_))))))
  dsimp only
  rw [hx2, Bool.and_false, if_neg (by decide)]
  unfold getAttrByItsOwn hookBefore
  rw [if_pos (show onTheHeap (Value.ref C) = true from rfl)]
  refine wpAny_bind (L2.at ?_)
  have f3 := F.attr_Exception.ga.bind (.ref x)
  refine wpAny_bind ?_
  refine wpAny_attempt (wpAny_holding ?_)
  unfold callGetattribute
  rw [show (expr && onTheHeap (Value.builtin "BaseException.__getattribute__")) = false from by cases expr <;> rfl, if_neg (by decide)]
  unfold boundAndCalled
  rw [f3]
  refine wpAny_bind (wpAny_pure (wpAny_call (exc_getattribute (s := ⟨hp', g, d, t + 1, os⟩) X I hp hf ?_)))
  show wpAny _ _ (handedOut v) _ _ _
  rw [handedOut_of hh]
  exact wpAny_pure h
end
end G456
namespace G456
open PySem PySem.W PyProof.Rows PySem.Calls

def TrP (P : Obj → Prop) (h base : Heap) (e : Addr) (fl : Value) : Prop :=
  ∃ oe vs T oT ts, h.get? e = some oe ∧ P oe ∧ oe.data = .fields vs ∧ vs[1]? = some (.ref T) ∧ base.get? T = none ∧ T ≠ e ∧ h.get? T = some oT ∧ oT.data = .fields ts ∧ ts[3]? = some fl

section
variable {M : Model} {A : Around} {E : Value → Shared → Prop} {s : Shared} {P : Obj → Prop}

theorem newEntryP (hP : ∀ o f, P o → P (Obj.mapFields f o)) {base : Heap} {env : Env} {outer : List Env} {L e : Addr} {oe : Obj} {vs : Array Value} {head : Value} {hadNext : Bool} {Q : Unit → Shared → Prop}
    (hfr : A.frames = some (env :: outer)) (hl : s.heap.FunFrames base (env :: outer)) (hf : env.frame = some L)
    (he : s.heap.get? e = some oe) (hkb : base.StaysIn s.heap) (hen : base.get? e = none) (hd : oe.data = .fields vs) (hsz : 1 < vs.size) (hp : P oe)
    (h : ∀ h', base.StaysIn h' → h'.FunFrames base (env :: outer) → TrP P h' base e .none → s.heap.UpToSlots h' → Q () { s with heap := h' }) :
    wpAny M A (do let a ← frameOf env; let pl ← entryPlaceOf L hadNext; let b ← EntryCells.newEntry head a .none (rawInt L) .none pl; setField (.ref e) 1 b) (fun _ s' => wpAny M A (setFlight (.ref e) none) Q E s') E s := by
  have hene : e ∉ (env :: outer).filterMap (·.frame) := fun hm => by
    obtain ⟨_, o, ho, hnf⟩ := hl.mem hm
    rw [he] at ho; injection ho with ho; subst ho; exact hnf vs hd
  refine wpAny_bind (wpAny_frameOf_fun hfr hl hf fun h₁ hs₁ => ?_)
  refine wpAny_bind (wpAny_entryPlaceOf fun pl hpl => ?_)
  unfold EntryCells.newEntry newFields
  refine wpAny_bind (wpAny_newObj_type ?_ (hpl.sizeOk5 _ _ _ _ _))
  have he₁ : h₁.get? e = some oe := (hs₁.2.1 e hene).trans he
  have kb₁ : base.StaysIn h₁ := fun b o hbo => (hs₁.2.1 b fun hm => by rw [(hl.mem hm).1] at hbo; cases hbo).trans (hkb b o hbo)
  have he₂ := Heap.get?_push_of_some (h := h₁) { cls := .type "traceback", dict := none, data := .fields ([head, .ref L, .none, rawInt L, .none] ++ (if pl.isEmpty then List.replicate 6 Value.none else pl)).toArray } he₁
  refine wpAny_setField he₂ hd hsz ?_
  have hTe : h₁.objs.size ≠ e := Nat.ne_of_gt (Heap.lt_size he₁)
  have hd₃ := Obj.data_mapFields hd (·.setIfInBounds 1 (Value.ref h₁.objs.size))
  have he₃ := Heap.get?_update_self (Obj.mapFields (·.setIfInBounds 1 (Value.ref h₁.objs.size))) he₂ (Obj.isFreed_of_fields hd₃)
  have hT₃ := (Heap.get?_update_other (h₁.push { cls := .type "traceback", dict := none, data := .fields ([head, .ref L, .none, rawInt L, .none] ++ (if pl.isEmpty then List.replicate 6 Value.none else pl)).toArray })
    (Obj.mapFields (·.setIfInBounds 1 (Value.ref h₁.objs.size))) (Ne.symm hTe)).trans (Heap.get?_push_size h₁ rfl)
  unfold setFlight
  refine wpAny_bind (wpAny_field he₃ hd₃ (x := .ref h₁.objs.size) (by simp [hsz]) ?_)
  rw [if_pos (show (Value.ref h₁.objs.size != Value.none) = true from by simp)]
  have keep : ∀ b o, b ≠ e → h₁.get? b = some o →
      (((h₁.push { cls := .type "traceback", dict := none, data := .fields ([head, .ref L, .none, rawInt L, .none] ++ (if pl.isEmpty then List.replicate 6 Value.none else pl)).toArray }).update e (Obj.mapFields (·.setIfInBounds 1 (Value.ref h₁.objs.size)))).update h₁.objs.size
        (Obj.mapFields (·.setIfInBounds 3 ((none : Option Addr).elim Value.none fun f => rawInt f)))).get? b = some o := fun b o hbe hb => by
    have hbT : h₁.objs.size ≠ b := Nat.ne_of_gt (Heap.lt_size hb)
    rw [Heap.get?_update_other _ _ hbT, Heap.get?_update_other _ _ (Ne.symm hbe)]
    exact Heap.get?_push_of_some _ hb
  have noRecord : ∀ b o, s.heap.get? b = some o → (∀ vs, o.data ≠ .fields vs) → b ≠ e := fun b o hb hnf q => by
    rw [q, he] at hb; injection hb with hb; subst hb; exact hnf vs hd
  refine wpAny_setField hT₃ rfl (by simp only [List.size_toArray, List.length_append, List.length_cons, List.length_nil] <;> omega) (h _ (fun b o hbo => keep b o (fun q => by rw [q, hen] at hbo; cases hbo) (kb₁ b o hbo)) (hl.of_keeps fun b o hb hnf => ?_) ?_ fun b o hb hnf => ?_)
  · obtain ⟨sl, hs⟩ := hs₁.2.2 b o hb
    exact ⟨_, keep b _ (noRecord b o hb hnf) hs, rfl⟩
  · refine ⟨_, _, h₁.objs.size, _, _, ?_, hP _ _ hp, hd₃, by simp [hsz], kb₁.fresh, hTe, Heap.get?_update_self _ hT₃ (Obj.isFreed_of_fields (Obj.data_mapFields rfl _)), Obj.data_mapFields rfl _, by first | (simp; done) | (rcases hpl with rfl | ⟨_, _, _, _, _, _, _, rfl⟩ <;> simp)⟩
    rw [Heap.get?_update_other _ _ hTe]; exact he₃
  · obtain ⟨sl, hs⟩ := hs₁.2.2 b o hb
    exact ⟨sl, keep b _ (noRecord b o hb hnf) hs⟩

theorem leaving_firstP (hP : ∀ o f, P o → P (Obj.mapFields f o)) {base : Heap} {env : Env} {outer : List Env} {L e : Addr} {oe : Obj} {vs : Array Value} {Q : Unit → Shared → Prop}
    (hfr : A.frames = some (env :: outer)) (hl : s.heap.FunFrames base (env :: outer)) (hf : env.frame = some L)
    (he : s.heap.get? e = some oe) (hkb : base.StaysIn s.heap) (hen : base.get? e = none) (hd : oe.data = .fields vs) (h1 : vs[1]? = some .none) (hp : P oe)
    (h : ∀ h', base.StaysIn h' → h'.FunFrames base (env :: outer) → TrP P h' base e .none → s.heap.UpToSlots h' → Q () { s with heap := h' }) : wpAny M A (leaving env (.ref e)) Q E s := by
  unfold leaving noteFrame
  simp only [hf]
  refine wpAny_bind (wpAny_bind (wpAny_field he hd h1 ?_))
  rw [if_neg (by decide)]
  exact newEntryP hP hfr hl hf he hkb hen hd (Array.getElem?_eq_some_iff.mp h1).1 hp h

theorem entryP (hP : ∀ o f, P o → P (Obj.mapFields f o)) {base : Heap} {env : Env} {outer : List Env} {L e : Addr} {oe : Obj} {vs : Array Value} {head : Value} {hadNext : Bool} {Q : Unit → Shared → Prop}
    (hfr : A.frames = some (env :: outer)) (hl : s.heap.FunFrames base (env :: outer)) (hf : env.frame = some L)
    (he : s.heap.get? e = some oe) (hkb : base.StaysIn s.heap) (hen : base.get? e = none) (hd : oe.data = .fields vs) (hsz : 1 < vs.size) (hp : P oe)
    (h : ∀ h', base.StaysIn h' → h'.FunFrames base (env :: outer) → TrP P h' base e (rawInt L) → s.heap.UpToSlots h' → Q () { s with heap := h' }) :
    wpAny M A (do let a ← frameOf env; let pl ← entryPlaceOf L hadNext; let b ← EntryCells.newEntry head a .none (rawInt L) .none pl; setField (.ref e) 1 b) Q E s := by
  have hene : e ∉ (env :: outer).filterMap (·.frame) := fun hm => by
    obtain ⟨_, o, ho, hnf⟩ := hl.mem hm
    rw [he] at ho; injection ho with ho; subst ho; exact hnf vs hd
  refine wpAny_bind (wpAny_frameOf_fun hfr hl hf fun h₁ hs₁ => ?_)
  refine wpAny_bind (wpAny_entryPlaceOf fun pl hpl => ?_)
  unfold EntryCells.newEntry newFields
  refine wpAny_bind (wpAny_newObj_type ?_ (hpl.sizeOk5 _ _ _ _ _))
  have he₁ : h₁.get? e = some oe := (hs₁.2.1 e hene).trans he
  have kb₁ : base.StaysIn h₁ := fun b o hbo => (hs₁.2.1 b fun hm => by rw [(hl.mem hm).1] at hbo; cases hbo).trans (hkb b o hbo)
  have he₂ := Heap.get?_push_of_some (h := h₁) { cls := .type "traceback", dict := none, data := .fields ([head, .ref L, .none, rawInt L, .none] ++ (if pl.isEmpty then List.replicate 6 Value.none else pl)).toArray } he₁
  have hTe : h₁.objs.size ≠ e := Nat.ne_of_gt (Heap.lt_size he₁)
  have hd₃ := Obj.data_mapFields hd (·.setIfInBounds 1 (Value.ref h₁.objs.size))
  have he₃ := Heap.get?_update_self (Obj.mapFields (·.setIfInBounds 1 (Value.ref h₁.objs.size))) he₂ (Obj.isFreed_of_fields hd₃)
  have hT₃ := (Heap.get?_update_other (h₁.push { cls := .type "traceback", dict := none, data := .fields ([head, .ref L, .none, rawInt L, .none] ++ (if pl.isEmpty then List.replicate 6 Value.none else pl)).toArray })
    (Obj.mapFields (·.setIfInBounds 1 (Value.ref h₁.objs.size))) (Ne.symm hTe)).trans (Heap.get?_push_size h₁ rfl)
  have keep : ∀ b o, b ≠ e → h₁.get? b = some o →
      ((h₁.push { cls := .type "traceback", dict := none, data := .fields ([head, .ref L, .none, rawInt L, .none] ++ (if pl.isEmpty then List.replicate 6 Value.none else pl)).toArray }).update e (Obj.mapFields (·.setIfInBounds 1 (Value.ref h₁.objs.size)))).get? b = some o :=
    fun b o hbe hb => by
      rw [Heap.get?_update_other _ _ (Ne.symm hbe)]
      exact Heap.get?_push_of_some _ hb
  have noRecord : ∀ b o, s.heap.get? b = some o → (∀ vs, o.data ≠ .fields vs) → b ≠ e := fun b o hb hnf q => by
    rw [q, he] at hb; injection hb with hb; subst hb; exact hnf vs hd
  refine wpAny_setField he₂ hd hsz (h _ (fun b o hbo => keep b o (fun q => by rw [q, hen] at hbo; cases hbo) (kb₁ b o hbo)) (hl.of_keeps fun b o hb hnf => ?_) ?_ fun b o hb hnf => ?_)
  · obtain ⟨sl, hs⟩ := hs₁.2.2 b o hb
    exact ⟨_, keep b _ (noRecord b o hb hnf) hs, rfl⟩
  · exact ⟨_, _, h₁.objs.size, _, _, he₃, hP _ _ hp, hd₃, by simp [hsz], kb₁.fresh, hTe, hT₃, rfl, by first | (simp; done) | (rcases hpl with rfl | ⟨_, _, _, _, _, _, _, rfl⟩ <;> simp)⟩
  · obtain ⟨sl, hs⟩ := hs₁.2.2 b o hb
    exact ⟨sl, keep b _ (noRecord b o hb hnf) hs⟩

theorem noteFrame_onP (hP : ∀ o f, P o → P (Obj.mapFields f o)) {base : Heap} {env : Env} {outer : List Env} {L e : Addr} {Q : Unit → Shared → Prop}
    (hfr : A.frames = some (env :: outer)) (hl : s.heap.FunFrames base (env :: outer)) (hf : env.frame = some L) (ht : TrP P s.heap base e .none) (hkb : base.StaysIn s.heap) (hen : base.get? e = none)
    (h : ∀ h', base.StaysIn h' → h'.FunFrames base (env :: outer) → TrP P h' base e (rawInt L) → s.heap.UpToSlots h' → Q () { s with heap := h' }) : wpAny M A (noteFrame (.ref e) env) Q E s := by
  obtain ⟨oe, vs, T, oT, ts, he, hp, hd, h1, hnT, hTe, hT, hdT, h3⟩ := ht
  unfold noteFrame
  simp only [hf]
  refine wpAny_bind (wpAny_field he hd h1 ?_)
  rw [if_pos (show (Value.ref T != Value.none) = true from by simp)]
  refine wpAny_bind (wpAny_field hT hdT h3 ?_)
  rw [if_neg (show ¬ ((Value.none == rawInt L) = true) from by simp [rawInt])]
  refine wpAny_bind (wpAny_setField hT hdT (Array.getElem?_eq_some_iff.mp h3).1 ?_)
  have other : ∀ b, b ≠ T → (s.heap.update T (Obj.mapFields (·.setIfInBounds 3 Value.none))).get? b = s.heap.get? b := fun b hb => Heap.get?_update_other _ _ (Ne.symm hb)
  have noRecord : ∀ b o, s.heap.get? b = some o → (∀ vs, o.data ≠ .fields vs) → b ≠ T := fun b o hb hnf q => by
    rw [q, hT] at hb; injection hb with hb; subst hb; exact hnf ts hdT
  refine entryP hP hfr (hl.of_keeps fun b o hb hnf => ⟨o, (other b (noRecord b o hb hnf)).trans hb, rfl⟩) hf ((other e (Ne.symm hTe)).trans he)
    (fun b o hbo => (other b fun q => by rw [q, hnT] at hbo; cases hbo).trans (hkb b o hbo)) hen hd (Array.getElem?_eq_some_iff.mp h1).1 hp
    fun h' x1 x2 x3 x4 => h h' x1 x2 x3 fun b o hb hnf => x4 b o ((other b (noRecord b o hb hnf)).trans hb) hnf

theorem setFlight_noneP {base : Heap} {l : List Env} {e : Addr} {fl : Value} {Q : Unit → Shared → Prop}
    (hkb : base.StaysIn s.heap) (hl : s.heap.FunFrames base l) (ht : TrP P s.heap base e fl)
    (h : ∀ h', base.StaysIn h' → h'.FunFrames base l → TrP P h' base e .none → s.heap.UpToSlots h' → Q () { s with heap := h' }) :
    wpAny M A (setFlight (.ref e) none) Q E s := by
  obtain ⟨oe, vs, T, oT, ts, he, hp, hd, h1, hnT, hTe, hT, hdT, h3⟩ := ht
  have hsz3 : 3 < ts.size := (Array.getElem?_eq_some_iff.mp h3).1
  have other : ∀ b, b ≠ T → (s.heap.update T (Obj.mapFields (·.setIfInBounds 3 ((none : Option Addr).elim Value.none fun f => rawInt f)))).get? b = s.heap.get? b :=
    fun b hb => Heap.get?_update_other _ _ (Ne.symm hb)
  have noRecord : ∀ b o, s.heap.get? b = some o → (∀ vs, o.data ≠ .fields vs) → b ≠ T := fun b o hb hnf q => by
    rw [q, hT] at hb; injection hb with hb; subst hb; exact hnf ts hdT
  unfold setFlight
  refine wpAny_bind (wpAny_field he hd h1 ?_)
  rw [if_pos (show (Value.ref T != Value.none) = true from by simp)]
  refine wpAny_setField hT hdT hsz3 (h _ (fun b o hbo => (other b fun q => by rw [q, hnT] at hbo; cases hbo).trans (hkb b o hbo))
    (hl.of_keeps fun b o hb hnf => ⟨o, (other b (noRecord b o hb hnf)).trans hb, rfl⟩) ?_ fun b o hb hnf => ⟨o.slots, (other b (noRecord b o hb hnf)).trans hb⟩)
  exact ⟨oe, vs, T, _, _, (other e (Ne.symm hTe)).trans he, hp, hd, h1, hnT, hTe, Heap.get?_update_self _ hT (Obj.isFreed_of_fields (Obj.data_mapFields hdT _)), Obj.data_mapFields hdT _, by simp [hsz3]⟩
end
end G456
namespace G456
open PySem PySem.W PyProof.Rows PySem.Calls

theorem dict_mapFields (o : Obj) (f : Array Value → Array Value) : (Obj.mapFields f o).dict = o.dict := by
  unfold Obj.mapFields; split <;> rfl
def ExcIs (C dx : Addr) (o : Obj) : Prop := o.cls = .ref C ∧ o.dict = some dx
theorem excIs_map (C dx : Addr) (o : Obj) (f : Array Value → Array Value) (h : ExcIs C dx o) : ExcIs C dx (Obj.mapFields f o) :=
  ⟨(Obj.cls_mapFields _ _).trans h.1, (dict_mapFields o f).trans h.2⟩

def RaisedP (C dx : Addr) (base : Heap) (l : List Env) (e : Addr) (news : List (Addr × Obj)) (h : Heap) : Prop :=
  ∃ B, base.StaysIn B ∧ (∀ q ∈ news, B.get? q.1 = some q.2 ∧ base.get? q.1 = none) ∧ B.StaysIn h ∧ B.get? e = none ∧ h.FunFrames B l ∧ TrP (ExcIs C dx) h B e .none

section
variable {M : Model} {A : Around} {E : Value → Shared → Prop} {s' : Shared} {base g : Heap} {outer : List Env} {L a e C dx : Addr} {m : Str → Option Value} {name : Str} {scope : Scope} {cd : Value} {Q : Unit → Shared → Prop} {news : List (Addr × Obj)}

theorem leave_excP {ex : Obj} {vs : Array Value} (K : Below A base outer g) (F : Fr g L s'.heap m) (N : News g L s'.heap news) (he : (e, ex) ∈ news) (hx : ExcIs C dx ex) (hd : ex.data = .fields vs) (h1 : vs[1]? = some .none)
    (hQ : ∀ h', RaisedP C dx base outer e (news.filter fun p => p.1 != e) h' → g.UpToSlots h' → Q () { s' with heap := h' }) (hk : scope.kind = .function := by rfl) :
    wpAny M (A.deeper (envOf name scope L a cd)) (leaving (envOf name scope L a cd) (.ref e)) Q E s' := by
  have K' := K.push (name := name) (a := a) (cd := cd) F hk
  have hin : ∀ env ∈ (envOf name scope L a cd :: outer), ∀ b, env.frame = some b → b ∈ e :: (envOf name scope L a cd :: outer).filterMap (·.frame) := fun env he b hb => .tail _ (List.mem_filterMap.mpr ⟨env, he, hb⟩)
  have nf : ∀ q ∈ news, q.1 ∉ (envOf name scope L a cd :: outer).filterMap (·.frame) := fun q hq hm => by
    obtain ⟨env, he, hf⟩ := List.mem_filterMap.mp hm
    rcases List.mem_cons.mp he with rfl | he
    · exact (N q hq).2.1 (Option.some.inj hf).symm
    · obtain ⟨o, ho, _⟩ := (K.frames.mem (List.mem_filterMap.mpr ⟨env, he, hf⟩)).2
      rw [(N q hq).2.2] at ho; cases ho
  have hge := (N _ he).2.2
  have st : base.StaysIn (hideAll s'.heap (e :: (envOf name scope L a cd :: outer).filterMap (·.frame))) := fun b o q => hideAll_get _ (K'.stays b o q) fun hm => by
    rcases List.mem_cons.mp hm with rfl | hm
    · rw [fresh_of_stays K.stays hge] at q; cases q
    · rw [(K'.frames.mem hm).1] at q; cases q
  have hl : ∀ q ∈ news.filter fun p => p.1 != e, (hideAll s'.heap (e :: (envOf name scope L a cd :: outer).filterMap (·.frame))).get? q.1 = some q.2 ∧ base.get? q.1 = none := fun q hq => by
    obtain ⟨hq, hne⟩ := List.mem_filter.mp hq
    refine ⟨hideAll_get _ (N q hq).1 fun hm => ?_, fresh_of_stays K.stays (N q hq).2.2⟩
    rcases List.mem_cons.mp hm with h | hm
    · simp [h] at hne
    · exact nf q hq hm
  refine leaving_firstP (excIs_map C dx) K'.stack (funFrames_hide K'.frames hin) rfl (N _ he).1 (fun b o q => of_hideAll _ q) (hideAll_none _ (.head _)) hd h1 hx fun h' x1 x2 x3 x4 => ?_
  obtain ⟨_, _, x2⟩ := x2
  exact hQ h' ⟨_, st, hl, x1, hideAll_none _ (.head _), x2, x3⟩ ((Heap.UpToSlots.of_keeps F.keep).trans x4)
end

section
variable {prog : Program} {w : World} {A₀ : Around} {E : Value → Shared → Prop} {s' : Shared} {h₀ h : Heap} {outer : List Env} {L a e C dx : Addr} {m : Str → Option Value} {name : Str} {scope : Scope} {cd : Value}
  {n : Str} {b₀ : Stmt} {suite : List Stmt} {pos np : Pos} {rest : List ExceptHandler} {Q : Flow → Shared → Prop} {news : List (Addr × Obj)} {KF : Frag}
  {p : Program} {loose : List Str} {mean : ExcName → Option Value} {mg mb : Str → Option Value} {x : Str}

theorem trP_there {h base : Heap} {fl : Value} (x : TrP (ExcIs C dx) h base e fl) : ∃ ob, h.get? e = some ob ∧ ob.cls = .ref C ∧ ob.dict = some dx ∧ ∃ vs, ob.data = .fields vs :=
  let ⟨oe, vs, _, _, _, he, hp, hd, _⟩ := x; ⟨oe, he, hp.1, hp.2, vs, hd⟩

theorem caught_P {nm q : Str} {NN : Addr} {bs bm : List Value} {hdct : Bool} {sn : List Str} {sub : List Value} {ab : Bool} {col : Option Bool} {dd : Option Addr} {k0 k1 k2 k3 k5 : Option Value} {newId : String}
    (K : Below A₀ h₀ outer h₀) (F : Fr h₀ L h m) (hsm : h.UpToSlots s'.heap) (R : RaisedP C dx h₀ (envOf name scope L a cd :: outer) e news s'.heap)
    (X : KF.In h₀) (T : TopRead p loose mg mb h₀) (ex : nsIn KF mainGlobals x = some (some (.ref C))) (hC : KF.lookup C = some (excClassObj nm q C NN bs bm hdct sn sub ab col dd k0 k1 k2 k3 k5 newId)) (hbase : bm.contains (.type "BaseException") = true)
    (k : ∀ h' ob tk, Fr h₀ L h' (fun y => if y = n then some (.ref e) else m y) → News h₀ L h' ((e, ob) :: news) → ExcIs C dx ob → (∃ vs, ob.data = .fields vs) →
      wpAny (model prog w) ((A₀.deeper (envOf name scope L a cd)).mark (some (.ref e))) (execs (b₀ :: suite) (envOf name scope L a cd))
        (fun f s₄ => wpAny (model prog w) (A₀.deeper (envOf name scope L a cd)) (do bindName (envOf name scope L a cd) n .none; unbindBehindTheSuite (envOf name scope L a cd) n pos) (fun _ s₅ => Q f s₅) E s₄)
        (AsSuiteRaised (model prog w) ((A₀.deeper (envOf name scope L a cd)).mark (some (.ref e))) (envOf name scope L a cd) n pos (notedBy (model prog w) ((A₀.deeper (envOf name scope L a cd)).mark (some (.ref e))) (envOf name scope L a cd) (cameBackBy (model prog w) (A₀.deeper (envOf name scope L a cd)) (envOf name scope L a cd) E)))
        { s' with heap := h', toks := tk })
    (hk : scope.kind = .function := by rfl) (hlo : (envOf name scope L a cd).kindOf n = some .local := by rfl) (hx : (envOf name scope L a cd).kindOf x = some .globalImplicit := by rfl) (hd : (x == ("__debug__" : Str)) = false := by decide) :
    wpAny (model prog w) (A₀.deeper (envOf name scope L a cd)) (noteFrame (.ref e) (envOf name scope L a cd))
      (fun _ s₂ => wpAny (model prog w) (A₀.deeper (envOf name scope L a cd)) (setFlight (.ref e) none) (fun _ s₃ =>
        wpAny (model prog w) (A₀.deeper (envOf name scope L a cd)) (handleBy (.ref e) (envOf name scope L a cd) (.ExceptHandler (some (.Name x np)) (some n) (b₀ :: suite) pos :: rest)) Q E s₃) E s₂) E s' := by
  obtain ⟨B, hB, hl, b1, b2, b3, b4⟩ := R
  have hL : B.get? L = none := by
    obtain ⟨_, ⟨L', _, hf, hn', _⟩, _⟩ := b3
    obtain rfl : L = L' := Option.some.inj hf
    exact hn'
  refine noteFrame_onP (excIs_map C dx) (Around.frames_deeper K.stack) b3 rfl b4 b1 b2 fun h₄ c1 c2 c3 c4 => ?_
  refine setFlight_noneP c1 c2 c3 fun h₅ d1 d2 d3 d4 => ?_
  have hsm₅ := c4.trans d4
  have F₅ := F.of_stays (fun b o q => d1 b o (hB b o q)) (hsm.trans hsm₅)
  obtain ⟨ob, hob, hobc, _⟩ := trP_there d3
  refine wpAny_handleBy_cons (codeAny_handlers_test (name_K F₅ X T ex ?_ hk hx hd)) (by intro q; cases q)
  refine wpAny_excMatches_sub_self (X.keeps F₅.keep _ _ hC) hob hobc hbase (codeAny_handlers_suite_as ?_)
  refine setFlight_noneP d1 d2 d3 fun h₆ f1 f2 f3 f4 => ?_
  have F₆ := F.of_stays (fun b o q => f1 b o (hB b o q)) ((hsm.trans hsm₅).trans f4)
  obtain ⟨oe, hoe, hoec, hoed, vs, hov⟩ := trP_there f3
  have N₆ := News.more F₆ News.nil hoe (fun es n q => by rw [hov] at q; cases q) (fresh_of_stays hB b2)
  have Nl : News h₀ L h₆ news := fun q hq => ⟨f1 _ _ (hl q hq).1, (fun z => by have := (hl q hq).1; rw [z, hL] at this; cases this), (hl q hq).2⟩
  refine stN F₆ (news := (e, oe) :: news) (fun q hq => by
    rcases List.mem_cons.mp hq with rfl | hq
    · exact N₆ _ (.head _)
    · exact Nl q hq) (fun h₇ F₇ N₇ => ?_) hk hlo
  exact k h₇ oe _ F₇ N₇ ⟨hoec, hoed⟩ ⟨vs, hov⟩
end
end G456
namespace G456
open PySem PySem.W PyProof.Rows PySem.Calls

noncomputable abbrev ent (P : Params) (x : Str) (t : Tok) (v : Value) : DictEntry := ⟨PyData.keyHash P x, .str x t, v⟩
noncomputable abbrev tupO (l : List Value) : Obj := { cls := .type "tuple", data := .seq l.toArray }
noncomputable abbrev scopeEs (P : Params) (t : Nat → Tok) (dsg nm par knd path net mdl en num : Value) : List DictEntry :=
  [ent P (Str.ofString "design") (t 0) dsg, ent P (Str.ofString "name") (t 1) nm, ent P (Str.ofString "parent") (t 2) par, ent P (Str.ofString "kind") (t 3) knd, ent P (Str.ofString "path") (t 4) path,
    ent P (Str.ofString "nettype") (t 5) net, ent P (Str.ofString "module_name") (t 6) mdl, ent P (Str.ofString "entries") (t 7) en, ent P (Str.ofString "number") (t 8) num]
noncomputable abbrev designEs (P : Params) (t : Nat → Tok) (sg as ga ud pr rl sl tp po mk ne bp : Value) : List DictEntry :=
  [ent P (Str.ofString "signals") (t 0) sg, ent P (Str.ofString "assigns") (t 1) as, ent P (Str.ofString "gates") (t 2) ga, ent P (Str.ofString "udps") (t 3) ud, ent P (Str.ofString "processes") (t 4) pr,
    ent P (Str.ofString "routines") (t 5) rl, ent P (Str.ofString "scopes") (t 6) sl, ent P (Str.ofString "tops") (t 7) tp, ent P (Str.ofString "ports") (t 8) po, ent P (Str.ofString "maker") (t 9) mk, ent P (Str.ofString "nesting") (t 10) ne,
    ent P (Str.ofString "by_path") (t 11) bp]
noncomputable abbrev routineEs (P : Params) (t : Nat → Tok) (num path isf aut at' wid sgn po sl bod src sc dis mad : Value) : List DictEntry :=
  [ent P (Str.ofString "number") (t 0) num, ent P (Str.ofString "path") (t 1) path, ent P (Str.ofString "is_function") (t 2) isf, ent P (Str.ofString "automatic") (t 3) aut, ent P (Str.ofString "at") (t 4) at', ent P (Str.ofString "width") (t 5) wid,
    ent P (Str.ofString "signed") (t 6) sgn, ent P (Str.ofString "ports") (t 7) po, ent P (Str.ofString "slots") (t 8) sl, ent P (Str.ofString "body") (t 9) bod, ent P (Str.ofString "source") (t 10) src, ent P (Str.ofString "scope") (t 11) sc,
    ent P (Str.ofString "disable_scope") (t 12) dis, ent P (Str.ofString "made") (t 13) mad]

section
variable {prog : Program} {w : World} {A : Around} {E : Value → Shared → Prop} {s : Shared} {h₀ : Heap} {L D e : Addr} {m : Str → Option Value} {news news' : List (Addr × Obj)}

theorem isSome_some {α : Type} {o : Option α} {v : α} (h : o = some v) : o.isSome = true := by rw [h]; rfl
theorem isSome_none {α : Type} {o : Option α} (h : o = none) : o.isSome = false := by rw [h]; rfl

theorem ent_notin {kvs : List (Str × Value)} {oe : Obj} {x : Str} {t : Tok} {b : Bool} {Q : Value → Shared → Prop} (N : News h₀ L s.heap news) (hp : (e, oe) ∈ news) (hd : oe.IsDictOf (PySem.strKind prog w) kvs) (lo : (e == sysModules) = false)
    (hb : (valueAt kvs x).isSome = b) (h : Q (.bool (!b)) { s with toks := s.toks + 1 }) : wpAny (model prog w) A (compareOp .NotIn (.str x t) (.ref e)) Q E s :=
  wpAny_notIn_of (strKind_is _ _ _ _) lo (kda_dict N hp hd).mapOf (by rw [hb]; exact h)
theorem ent_in {kvs : List (Str × Value)} {oe : Obj} {x : Str} {t : Tok} {b : Bool} {Q : Value → Shared → Prop} (N : News h₀ L s.heap news) (hp : (e, oe) ∈ news) (hd : oe.IsDictOf (PySem.strKind prog w) kvs) (lo : (e == sysModules) = false)
    (hb : (valueAt kvs x).isSome = b) (h : Q (.bool b) { s with toks := s.toks + 1 }) : wpAny (model prog w) A (compareOp .In (.str x t) (.ref e)) Q E s :=
  kda_in N hp hd lo (strKind_is _ _ _ _) b hb h
theorem ent_item {kvs : List (Str × Value)} {oe : Obj} {x : Str} {t : Tok} {v : Value} {value slice : PySem.Expr} {Q : Value → Shared → Prop} (N : News h₀ L s.heap news) (hp : (e, oe) ∈ news) (hd : oe.IsDictOf (PySem.strKind prog w) kvs)
    (hl : valueAt kvs x = some v) (h : Q v { s with toks := s.toks + 1 })
    (hs : subscripted slice false (.ref e) (.str x t) = operate [.ref e, .str x t] (getItem (.ref e) (.str x t)) := by with_unfolding_all rfl) :
    wpAny (model prog w) A (subscriptTail value slice (.ref e) (.str x t)) Q E s :=
  have hD := kda_dict N hp hd
  tail_any hD.typeIs slot_dict_getitem.lookup (wpAny_getItem_of (strKind_is _ _ _ _) hD.mapOf hl h) hs
theorem list_item {l : List Value} {k : Int} {u : Tok} {n : Nat} {v : Value} {value slice : PySem.Expr} {Q : Value → Shared → Prop} (N : News h₀ L s.heap news) (hp : (D, listOf l.toArray n) ∈ news)
    (h0 : 0 ≤ k) (hhi : k < 2 ^ 63) (hx : l[k.toNat]? = some v) (h : Q v s)
    (hs : subscripted slice false (.ref D) (.int k u) = operate [.ref D, .int k u] (getItem (.ref D) (.int k u)) := by with_unfolding_all rfl) :
    wpAny (model prog w) A (subscriptTail value slice (.ref D) (.int k u)) Q E s :=
  have hl : s.heap.IsList D l.toArray := News.isList N hp
  tail_any hl.typeIs slot_list_getitem.lookup (wpAny_getItem_list hl h0 hhi (by simpa using hx) h) hs
theorem list_len {l : List Value} {n : Nat} {Q : Value → Shared → Prop} (N : News h₀ L s.heap news) (hp : (D, listOf l.toArray n) ∈ news) (hz : l.length ≤ 1000)
    (h : Q (.int (l.length : Int) (s.toks + 1)) { s with toks := s.toks + 1 + 1 }) : wpAny (model prog w) A (call (.builtin "len") [.ref D]) Q E s := by
  have hl : s.heap.IsList D l.toArray := News.isList N hp
  refine len_list hl (by rw [List.size_toArray]; omega) ?_
  rw [List.size_toArray]; exact h
theorem lt_true {a b : Int} {t u : Tok} {Q : Value → Shared → Prop} (hab : a < b) (h : Q (.bool true) s) : wpAny (model prog w) A (compareOp .Lt (.int a t) (.int b u)) Q E s := by
  have e : decide (a < b) = true := decide_eq_true hab
  refine lt_int ?_
  rw [e]; exact h
end
end G456
namespace G456
open PySem PySem.W PyProof.Rows PySem.Calls

section
variable {prog : Program} {w : World} {A : Around} {E : Value → Shared → Prop} {s : Shared} {env : Env} {M : Model} {K : Frag}
variable {nm q : Str} {C N : Addr} {bs bm bmB : List Value} {hdct : Bool} {sn : List Str} {sub : List Value} {ab : Bool} {col : Option Bool} {dd : Option Addr} {k0 k1 k2 k3 k5 : Option Value} {B newId initId : String}

theorem raiseStmt_P {x : Sem Value} {Q : Flow → Shared → Prop} (hbase : bm.contains (.type "BaseException") = true) (hh : A.handled = none)
    (h : wpAny M A x (fun v s₁ => ∃ e dx t, v = .ref e ∧ s₁.heap.get? C = some (excClassObj nm q C N bs bm hdct sn sub ab col dd k0 k1 k2 k3 k5 newId) ∧
      s₁.heap.get? e = some { cls := .ref C, dict := dx, data := .fields #[.ref t, .none, .none, .none, .bool false, .none] } ∧ E (.ref e) s₁) E s) :
    wpAny M A (raiseStmt env (some x) none) Q E s := by
  have hcB : (Value.ref C :: bm).contains (.type "BaseException") = true := by rw [List.contains_cons, hbase, Bool.or_true]
  unfold raiseStmt
  refine wpAny_bind (wpAny_mono h (fun v s₁ h₁ => ?_) fun _ _ x => x)
  obtain ⟨e, dx, t, rfl, hC, he, hE⟩ := h₁
  obtain ⟨hp, g, d, tk, os⟩ := s₁
  repeat (first | with_reducible refine wpAny_loadPart_at he ?_ | with_reducible refine wpAny_loadPart_at hC ?_ | (with_reducible refine wpAny_isSubtype_exc hC ?_; rw [hcB]) | wp_step)
  exact wpAny_raiseNew_none hh hE

theorem raise_call_P (F : ExcBaseFacts B newId initId bmB) (T : TailOk B bm) {x : Str} {np cpos pos : Pos} {args : List PySem.Expr} {fI : Addr} {Q : Flow → Shared → Prop}
    (hh : A.handled = none) (hplain : (backTo cpos (starEach args env)).any (·.1) = false) (hi : findIn K (.ref C) "__init__" = some (some (.ref fI))) (hf : typeIn K (.ref fI) = some (.type "function"))
    (hC : K.lookup C = some (excClassObj nm q C N bs bm hdct sn sub ab col dd k0 k1 k2 k3 k5 newId))
    (h : wpAny (model prog w) A (eval (.Name x np) env) (fun f s₁ => f = .ref C ∧ wpAny (model prog w) A (evalArgs (.ref C) true (backTo cpos (starEach args env)) [])
      (fun a s₂ => a.kw = [] ∧ a.pos.length ≤ sizeLine ∧ K.In s₂.heap ∧
        ∀ h' e, Heap.MadeExcOf s₂.heap h' e (.ref C) a.pos → wpAny (model prog w) (A.under (.builtin "type.__call__" ⟨.ref C :: a.pos, []⟩)) (call (.ref fI) (.ref e :: a.pos))
          (fun r s' => r = .none ∧ K.In s'.heap ∧ (∃ dx t, s'.heap.get? e = some { cls := .ref C, dict := dx, data := .fields #[.ref t, .none, .none, .none, .bool false, .none] }) ∧ E (.ref e) s') E { s₂ with heap := h' }) E s₁) E s) :
    wpAny (model prog w) A (exec (.Raise (some (.Call (.Name x np) args [] cpos)) none pos) env) Q E s := by
  rw [arm_exec_Raise]
  first
    | refine wpAny_bind (wpAny_standAt (raiseStmt_P (C := C) (nm := nm) (q := q) (N := N) (bs := bs) (bm := bm) (hdct := hdct) (sn := sn) (sub := sub) (ab := ab) (col := col) (dd := dd) (k0 := k0) (k1 := k1) (k2 := k2) (k3 := k3) (k5 := k5) (newId := newId) T.hasBase hh (wpAny_bind (wpAny_mono (wpAny_Call_ofName (wpAny_mono h (fun f s₁ h₁ => ?_) fun _ _ x => x)) (fun v s₃ h₃ => wpAny_bind (wpAny_standAt (wpAny_pure h₃))) fun _ _ x => x))))
    | (simp only [evalOpt, Option.map]; refine wpAny_bind (wpAny_standAt (raiseStmt_P (C := C) (nm := nm) (q := q) (N := N) (bs := bs) (bm := bm) (hdct := hdct) (sn := sn) (sub := sub) (ab := ab) (col := col) (dd := dd) (k0 := k0) (k1 := k1) (k2 := k2) (k3 := k3) (k5 := k5) (newId := newId) T.hasBase hh (wpAny_bind (wpAny_mono (wpAny_Call_ofName (wpAny_mono h (fun f s₁ h₁ => ?_) fun _ _ x => x)) (fun v s₃ h₃ => wpAny_bind (wpAny_standAt (wpAny_pure h₃))) fun _ _ x => x)))))
  obtain ⟨rfl, h₁⟩ := h₁
  unfold callWith
  refine wpAny_bind (wpAny_holding (wpAny_mono h₁ (fun a s₂ h₂ => wpAny_bind (wpAny_standAt ?_)) fun _ _ x => x))
  obtain ⟨apos, akw⟩ := a
  obtain ⟨hkw, hlen, X, h₂⟩ := h₂
  obtain rfl : akw = [] := hkw
  obtain ⟨hp, g, d, tk, os⟩ := s₂
  simp only [hplain]
  refine wpAny_bind (wpAny_keeperOf_exc (X _ _ hC) ?_)
  refine wpAny_bind (excW_call F T X (X _ _ hC) hi hf (fun h' e hm _ => wpAny_mono (h₂ h' e hm) (fun r s' z => ?_) fun _ _ z => z) hlen)
  obtain ⟨rfl, X', ⟨dx, t, ht⟩, z⟩ := z
  exact ⟨rfl, wpAny_bind (wpAny_holding (wpAny_point (wpAny_pure ⟨e, dx, t, rfl, X' _ _ hC, ht, z⟩)))⟩
end

section
variable {prog : Program} {w : World} {A : Around} {E : Value → Shared → Prop} {s : Shared} {K : Frag} {name : Str} {scope : Scope} {L a : Addr} {cd : Value} {h₀ : Heap} {m mg mb : Str → Option Value} {p : Program} {loose : List Str} {mean : ExcName → Option Value}
variable {nm q x : Str} {C N : Addr} {bs bm bmB : List Value} {hdct : Bool} {sn : List Str} {sub : List Value} {ab : Bool} {col : Option Bool} {dd : Option Addr} {k0 k1 k2 k3 k5 : Option Value} {newId initId : String}

theorem raise_P {Bs : String} {e₀ : PySem.Expr} {rest : List PySem.Expr} {np cpos pos : Pos} {fI : Addr} {Q : Flow → Shared → Prop} (F : Fr h₀ L s.heap m) (X₀ : K.In h₀) (T : TopRead p loose mg mb h₀) (ex : nsIn K mainGlobals x = some (some (.ref C))) (FB : ExcBaseFacts Bs newId initId bmB) (TO : TailOk Bs bm)
    (hh : A.handled = none) (hi : findIn K (.ref C) "__init__" = some (some (.ref fI))) (hf : typeIn K (.ref fI) = some (.type "function"))
    (hC : K.lookup C = some (excClassObj nm q C N bs bm hdct sn sub ab col dd k0 k1 k2 k3 k5 newId))
    (h : wpAny (model prog w) A (spliced (backTo cpos (starEach (e₀ :: rest) (envOf name scope L a cd)))) (fun vs s₂ => vs.length ≤ sizeLine ∧ (∀ b o, h₀.get? b = some o → s₂.heap.get? b = some o) ∧
      ∀ h' e, Heap.MadeExcOf s₂.heap h' e (.ref C) vs → wpAny (model prog w) (A.under (.builtin "type.__call__" ⟨.ref C :: vs, []⟩)) (call (.ref fI) (.ref e :: vs))
          (fun r s' => r = .none ∧ (∀ b o, h₀.get? b = some o → s'.heap.get? b = some o) ∧ (∃ dx t, s'.heap.get? e = some { cls := .ref C, dict := dx, data := .fields #[.ref t, .none, .none, .none, .bool false, .none] }) ∧ E (.ref e) s') E { s₂ with heap := h' }) E s)
    (he : starEach (e₀ :: rest) (envOf name scope L a cd) = (false, eval e₀ (envOf name scope L a cd)) :: starEach rest (envOf name scope L a cd) := by rfl)
    (hplain : (backTo cpos (starEach rest (envOf name scope L a cd))).any (·.1) = false := by rfl)
    (hk : scope.kind = .function := by rfl) (hx : (envOf name scope L a cd).kindOf x = some .globalImplicit := by rfl) (hd : (x == ("__debug__" : Str)) = false := by decide) :
    wpAny (model prog w) A (exec (.Raise (some (.Call (.Name x np) (e₀ :: rest) [] cpos)) none pos) (envOf name scope L a cd)) Q E s := by
  refine raise_call_P (K := K) (C := C) FB TO hh (by rw [he]; show (false || (backTo cpos (starEach rest (envOf name scope L a cd))).any (·.1)) = false; rw [hplain]; rfl) hi hf hC (name_K F X₀ T ex ⟨rfl, ?_⟩ hk hx hd)
  rw [he] at h ⊢
  exact Calls.evalArgs_plain (wpAny_mono h (fun vs s₂ h₂ => ⟨rfl, h₂.1, X₀.keeps h₂.2.1, fun h' e hm => wpAny_mono (h₂.2.2 h' e hm) (fun r s' z => ⟨z.1, X₀.keeps z.2.1, z.2.2.1, z.2.2.2⟩) fun _ _ z => z⟩) fun _ _ y => y)

theorem made_news {h h' : Heap} {e : Addr} {vs : List Value} {news : List (Addr × Obj)} (F : Fr h₀ L h m) (N : News h₀ L h news) (H : Heap.MadeExcOf h h' e (.ref C) vs) :
    ∃ t, Fr h₀ L h' m ∧ News h₀ L h' ((e, ⟨.ref C, none, .fields #[.ref t, .none, .none, .none, .bool false, .none], #[]⟩) :: (t, { cls := .type "tuple", data := .seq vs.toArray }) :: news) ∧ (∀ p ∈ news, p.1 ≠ e) ∧ (∀ p ∈ news, p.1 ≠ t) ∧ t ≠ e := by
  obtain ⟨t, he, htn, ht⟩ := H.there
  have fresh : ∀ b, h.get? b = none → h₀.get? b = none := fun b hb => by
    cases hq : h₀.get? b with
    | none => rfl
    | some o' => have := F.keep b o' hq; rw [hb] at this; cases this
  obtain ⟨oL, es, ep, hL, r⟩ := F.ns
  have hLe : ∀ b, h.get? b = none → b ≠ L := fun b hb e => by rw [e, hL] at hb; cases hb
  refine ⟨t, F.keeps H.keeps, fun p hp => ?_, fun p hp e' => ?_, fun p hp e' => ?_, fun e' => ?_⟩
  · rcases List.mem_cons.mp hp with rfl | hp
    · exact ⟨he, hLe _ H.new, fresh _ H.new⟩
    · rcases List.mem_cons.mp hp with rfl | hp
      · exact ⟨ht, hLe _ htn, fresh _ htn⟩
      · exact ⟨H.keeps _ _ (N p hp).1, (N p hp).2⟩
  · have := (N p hp).1; rw [e', H.new] at this; cases this
  · have := (N p hp).1; rw [e', htn] at this; cases this
  · rw [e', he] at ht; cases ht
end
end G456
namespace G456
open PySem PySem.W PyProof.Rows PySem.Calls

section
variable {prog : Program} {w : World} {A : Around} {E : Value → Shared → Prop} {s : Shared} {env : Env} {h₀ : Heap} {x : Str} {body : List Stmt} {Q : Flow → Shared → Prop} {news : List (Addr × Obj)}

def LEnd (h₀ : Heap) (L : Addr) (all : List (Addr × Obj)) (rest : (Str → Option Value) → Prop) (s s₂ : Shared) : Prop :=
  ∃ h' tk m', s₂ = { s with heap := h', toks := tk } ∧ Fr h₀ L h' m' ∧ News h₀ L h' all ∧ rest m'
def LPost (h₀ : Heap) (L : Addr) (all : List (Addr × Obj)) (rest : (Str → Option Value) → Prop) (Q : Flow → Shared → Prop) (s : Shared) (f : Flow) (s₂ : Shared) : Prop :=
  match f with
  | .ret v => Q (.ret v) s₂
  | .brk => Q .next s₂
  | _ => LEnd h₀ L all rest s s₂
def LR (prog : Program) (w : World) (A : Around) (E : Value → Shared → Prop) (h₀ : Heap) (env : Env) (x : Str) (body : List Stmt) (Q : Flow → Shared → Prop) (news : List (Addr × Obj)) (s : Shared) : List Value → (Str → Option Value) → Prop
  | [], m => ∀ h tk, Fr h₀ env.locals h m → News h₀ env.locals h news → Q .next { s with heap := h, toks := tk }
  | v :: r, m => ∀ own h tk, Fr h₀ env.locals h (fun y => if y = x then some v else m y) → News h₀ env.locals h (own ++ news) →
      wpAny (model prog w) A (execs body env) (LPost h₀ env.locals (own ++ news) (LR prog w A E h₀ env x body Q news s r) Q s) E { s with heap := h, toks := tk }
theorem LR.done {m : Str → Option Value} (h : ∀ h tk, Fr h₀ env.locals h m → News h₀ env.locals h news → Q .next { s with heap := h, toks := tk }) : LR prog w A E h₀ env x body Q news s [] m := h
theorem LR.turn {v : Value} {r : List Value} {m : Str → Option Value} (h : ∀ own h tk, Fr h₀ env.locals h (fun y => if y = x then some v else m y) → News h₀ env.locals h (own ++ news) →
      wpAny (model prog w) A (execs body env) (LPost h₀ env.locals (own ++ news) (LR prog w A E h₀ env x body Q news s r) Q s) E { s with heap := h, toks := tk }) : LR prog w A E h₀ env x body Q news s (v :: r) m := h
theorem LEnd.intro {L : Addr} {all all' : List (Addr × Obj)} {rest : (Str → Option Value) → Prop} {h' : Heap} {tk : Nat} {m' : Str → Option Value} (F : Fr h₀ L h' m') (N : News h₀ L h' all') (k : ∀ p ∈ all, p ∈ all') (r : rest m') : LEnd h₀ L all rest s { s with heap := h', toks := tk } :=
  ⟨h', tk, m', rfl, F, fun p hp => N p (k p hp), r⟩

theorem iter_LR {l : Addr} {vs : List Value} {n : Nat} {m₀ : Str → Option Value} (hh : A.handled = none) (F : Fr h₀ env.locals s.heap m₀) (N : News h₀ env.locals s.heap news) (hp : (l, listOf vs.toArray n) ∈ news)
    (rest : LR prog w A E h₀ env x body Q news s vs m₀) :
    wpAny (model prog w) A (pyIter (.ref l)) (fun it s₂ => LoopAtV prog w A h₀ env x body Q E it s₂) E s := by
  have hls : s.heap.IsList l vs.toArray := News.isList N hp
  have hlt : l < s.heap.objs.size := Heap.lt_size (N _ hp).1
  have hne : l ≠ s.heap.objs.size := Nat.ne_of_lt hlt
  refine wpAny_pyIter_list hls ?_
  have W := Walks.list (prog := prog) (w := w) hh s.heap.objs.size l hne vs.toArray
  have hlen : vs.toArray.size = vs.length := by simp
  rw [hlen] at W
  let J' : Nat → (Str → Option Value) → List (Addr × Obj) → Prop := fun i m₁ news₁ => news₁ = news ∧ LR prog w A E h₀ env x body Q news s (vs.drop i) m₁
  refine ⟨_, _, _, vs.length, _, _, m₀, news, J', rfl, W, ?_, ?_, ?_, ⟨⟨_, Heap.get?_push_size _ rfl, rfl, rfl⟩, hls.at fun o e => Heap.get?_push_of_some _ e⟩, F.push _, (fun p hp => ⟨Heap.get?_push_of_some _ (N p hp).1, (N p hp).2⟩), ⟨rfl, rest⟩, ?_, ?_⟩
  · intro hm
    rcases List.mem_cons.mp hm with e | hm
    · exact absurd F.ns.lt (e ▸ Nat.lt_irrefl _)
    · exact absurd (List.mem_singleton.mp hm) (Ne.symm (N _ hp).2.1)
  · intro b hb
    rw [List.mem_singleton.mp hb]
    exact next_is_new F
  · intro p hp hI
    exact absurd (Heap.lt_size (N p hp).1) ((List.mem_singleton.mp hI) ▸ Nat.lt_irrefl _)
  · rintro i v m₁ news₁ s₁ own ⟨hh', tk', rfl⟩ hin hP ⟨rfl, hJ⟩ hoff _ _ _ _ F₁ N₁
    have hlt' : i < vs.length := hin
    have hv : vs[i]? = some v := by simpa using hP
    have hd : vs.drop i = v :: vs.drop (i + 1) := by
      rw [List.drop_eq_getElem_cons hlt']
      rw [List.getElem?_eq_getElem hlt'] at hv
      rw [Option.some.inj hv]
    rw [hd] at hJ
    refine wpAny_mono (hJ own hh' tk' F₁ N₁) (fun f s₂ p => ?_) fun _ _ e => e
    have fin : LEnd h₀ env.locals (own ++ news₁) (LR prog w A E h₀ env x body Q news₁ s (vs.drop (i + 1))) s s₂ → LoopStepU h₀ env.locals [s.heap.objs.size] own (J' (i + 1)) { s with heap := hh', toks := tk' } .next s₂ := by
      rintro ⟨h', tk, m', e, F', N', hr⟩
      exact ⟨rfl, h', tk, m', news₁, e, F', N', hoff, rfl, hr⟩
    cases f with
    | ret v => exact .ret p
    | brk => exact .brk p
    | next => exact .next (fin p)
    | cont => exact .cont (fin p)
  · rintro h' tk m' news' F' N' _ ⟨rfl, hJ⟩
    have hJ2 : LR prog w A E h₀ env x body Q news' s (vs.drop vs.length) m' := hJ
    rw [List.drop_length] at hJ2
    exact hJ2 h' tk F' N'
end

def DescIs (w : World) (mean : ExcName → Option Value) (mg mb : Str → Option Value) (news : List (Addr × Obj)) (x pl : Addr) (v : Value) : Prop :=
  ∀ (dp un : Nat) (gd : Option (List Code)) (cn : Str) (cs : Scope) (a : Addr) (ccd : Value) (cl : List (Str × Addr)) (outer : List Env) (A₀ : Around) (base h₀ : Heap) (L : Addr) (m : Str → Option Value) (led : List (Addr × Obj)) (s : Shared) (Q E : Value → Shared → Prop),
    Below A₀ base outer h₀ → Fr h₀ L s.heap m → (K0 w.params).In h₀ → News h₀ L s.heap led → (∀ p ∈ news, p ∈ led) → TT mean mg mb h₀ → cs.kind = .function → dp < 600 → un < 4000 →
    (∀ h' tk', Fr h₀ L h' m → News h₀ L h' led → Q v { s with heap := h', toks := tk' }) →
    wpAny (model Challenge.rw_pq0456_01.row.prog w) (ktrTop dp un gd cn cs L a ccd cl outer) (call (.ref 110) [.ref x, .ref pl]) Q E s
theorem DescIs.use {w : World} {mean : ExcName → Option Value} {mg mb : Str → Option Value} {news : List (Addr × Obj)} {x pl : Addr} {v : Value} {dp un : Nat} {gd : Option (List Code)} {cn : Str} {cs : Scope} {a : Addr} {ccd : Value} {cl : List (Str × Addr)} {outer : List Env} {A₀ : Around} {base h₀ : Heap} {L : Addr} {m : Str → Option Value} {led : List (Addr × Obj)} {s : Shared} {Q E : Value → Shared → Prop}
    (D : DescIs w mean mg mb news x pl v) (B : Below A₀ base outer h₀) (F : Fr h₀ L s.heap m) (X : (K0 w.params).In h₀) (N : News h₀ L s.heap led) (hs : ∀ p ∈ news, p ∈ led) (T : TT mean mg mb h₀) (hk : cs.kind = .function) (hd : dp < 600) (hu : un < 4000)
    (ret : ∀ h' tk', Fr h₀ L h' m → News h₀ L h' led → Q v { s with heap := h', toks := tk' }) :
    wpAny (model Challenge.rw_pq0456_01.row.prog w) (ktrTop dp un gd cn cs L a ccd cl outer) (call (.ref 110) [.ref x, .ref pl]) Q E s := D _ _ _ _ _ _ _ _ _ _ _ _ _ _ _ _ _ _ B F X N hs T hk hd hu ret
end G456
namespace G456
open PySem PySem.W PyProof.Rows PySem.Calls
structure Sq (prog : Program) (w : World) (A : Around) (rest : List Stmt) (env : Env) (Q : Flow → Shared → Prop) (E : Value → Shared → Prop) (K : Flow → Shared → Prop) : Prop where
  next : ∀ s', wpAny (model prog w) A (execs rest env) Q E s' → K .next s'
  brk : ∀ s', Q .brk s' → K .brk s'
  cont : ∀ s', Q .cont s' → K .cont s'
  ret : ∀ v s', Q (.ret v) s' → K (.ret v) s'
section
variable {prog : Program} {w : World} {A : Around} {st : Stmt} {rest : List Stmt} {env : Env} {Q K : Flow → Shared → Prop} {E : Value → Shared → Prop} {s : Shared}
theorem stmt_cut (h : ∀ K : Flow → Shared → Prop, Sq prog w A rest env Q E K → wpAny (model prog w) A (exec st env) K E s) : wpAny (model prog w) A (execs (st :: rest) env) Q E s :=
  wpAny_execs_cons (h _ ⟨fun _ h => h, fun _ h => h, fun _ h => h, fun _ _ h => h⟩)
theorem stmt_last (hn : ∀ s', Q .next s' → wpAny (model prog w) A (execs [] env) Q E s') (h : wpAny (model prog w) A (exec st env) Q E s) : wpAny (model prog w) A (execs [st] env) Q E s :=
  wpAny_execs_cons (wpAny_mono h (fun f s' p => by cases f with | next => exact hn s' p | _ => exact p) fun _ _ e => e)
theorem stmt_one (h : wpAny (model prog w) A (exec st env) Q E s) : wpAny (model prog w) A (execs [st] env) Q E s :=
  stmt_last (fun _ p => wpAny_execs_nil p) h
structure Br (T F : Shared → Prop) (K : Bool → Shared → Prop) : Prop where
  t : ∀ s', T s' → K true s'
  f : ∀ s', F s' → K false s'
theorem Br.any {T F : Shared → Prop} {K : Bool → Shared → Prop} {b : Bool} (hK : Br T F K) (ht : b = true → T s) (hf : b = false → F s) : K b s := by
  cases b
  · exact hK.f _ (hf rfl)
  · exact hK.t _ (ht rfl)
theorem if_cut {test : PySem.Expr} {body orelse : List Stmt} {pos : Pos} (h : ∀ K : Bool → Shared → Prop, Br (wpAny (model prog w) A (execs body env) Q E) (wpAny (model prog w) A (execs orelse env) Q E) K → wpAny (model prog w) A (isTrue test env (eval test env)) K E s) :
    wpAny (model prog w) A (exec (.If test body orelse pos) env) Q E s :=
  wpAny_If (h _ ⟨fun _ h => by simpa using h, fun _ h => by simpa using h⟩)
end
theorem fr_gen {g h : Heap} {L : Addr} {m : Str → Option Value} (P : (Str → Option Value) → Prop) (F : Fr g L h m) (hP : P m) : ∃ m', Fr g L h m' ∧ P m' := ⟨m, F, hP⟩
theorem toks_any {M : Model} {A : Around} {α : Type} {t : Sem α} {Q : α → Shared → Prop} {E : Value → Shared → Prop} {s : Shared} {h : Heap} {k : Nat} (H : ∀ k', wpAny M A t Q E { s with heap := h, toks := k' }) : wpAny M A t Q E { s with heap := h, toks := k } := H k
end G456
namespace G456
open PySem PySem.W PyProof.Rows PySem.Calls
structure Cx where
  h₀ : Heap
  L : Addr
  m : Str → Option Value
  led : List (Addr × Obj)
  env : Env
structure Ev (w : World) (C : Cx) (e : PySem.Expr) (v : Value) : Prop where
  go : ∀ (A : Around) (Q E : Value → Shared → Prop) (s : Shared), Fr C.h₀ C.L s.heap C.m → News C.h₀ C.L s.heap C.led → (∀ k, Q v { s with toks := k }) → wpAny (model Challenge.rw_pq0456_01.row.prog w) A (eval e C.env) Q E s
structure Te (w : World) (C : Cx) (e : PySem.Expr) (b : Bool) : Prop where
  go : ∀ (A : Around) (Q : Bool → Shared → Prop) (E : Value → Shared → Prop) (s : Shared), Fr C.h₀ C.L s.heap C.m → News C.h₀ C.L s.heap C.led → (∀ k, Q b { s with toks := k }) → wpAny (model Challenge.rw_pq0456_01.row.prog w) A (isTrue e C.env (eval e C.env)) Q E s
section
variable {w : World} {C : Cx} {h₀ : Heap} {L : Addr} {m : Str → Option Value} {led : List (Addr × Obj)} {env : Env} {A : Around} {E : Value → Shared → Prop} {s : Shared} {e e2 : PySem.Expr} {v : Value} {b : Bool} {pos p2 : Pos} {kk : Nat}
theorem ev_use {Q : Value → Shared → Prop} (F : Fr h₀ L s.heap m) (N : News h₀ L s.heap led) (H : Ev w ⟨h₀, L, m, led, env⟩ e v) (h : ∀ k, Q v { s with toks := k }) : wpAny (model Challenge.rw_pq0456_01.row.prog w) A (eval e env) Q E s := H.go A Q E s F N h
theorem te_use {Q : Bool → Shared → Prop} (F : Fr h₀ L s.heap m) (N : News h₀ L s.heap led) (H : Te w ⟨h₀, L, m, led, env⟩ e b) (h : ∀ k, Q b { s with toks := k }) : wpAny (model Challenge.rw_pq0456_01.row.prog w) A (isTrue e env (eval e env)) Q E s := H.go A Q E s F N h
theorem ev_name {cn : Str} {cs : Scope} {a : Addr} {ccd : Value} {cl : List (Str × Addr)} {x : Str} (hv : m x = some v) (hk : cs.kind = .function := by rfl) (hx : (envX cn cs L a ccd cl).kindOf x = some .local := by rfl) (hd : (x == ("__debug__" : Str)) = false := by decide) :
    Ev w ⟨h₀, L, m, led, envX cn cs L a ccd cl⟩ (.Name x pos) v := ⟨fun _ _ _ s F _ q => nameX_L F hv (q s.toks) hk hx hd⟩
theorem ev_none : Ev w C (.Constant .none kk pos) .none := ⟨fun _ _ _ s _ _ q => wpAny_Constant_none (q s.toks)⟩
theorem ev_bool : Ev w C (.Constant (.bool b) kk pos) (.bool b) := ⟨fun _ _ _ s _ _ q => wpAny_Constant_bool (q s.toks)⟩
theorem ev_attr {name : Str} {x Cc d : Addr} {es : List DictEntry} {n : Nat} {attr : Option Value} (he : Ev w C e (.ref x)) (X : (K0 w.params).In C.h₀) (hx : (x, instObj Cc d) ∈ C.led) (hd : (d, dictOf es n) ∈ C.led)
    (hg : plainGet (K0 w.params) Cc name = true) (hh : hasDictIn (K0 w.params) Cc = true) (ha : findIn (K0 w.params) (.ref Cc) name = some attr) (hn : noGet (K0 w.params) attr = true)
    (hl : getL name es = some (some v)) (hv : handedIn v = true)
    (hq : eval (.Attribute e name pos) C.env = (do
      let o ← eval e C.env
      standAt pos.atName
      let r ← holding [o] (getAttr o name true)
      letTemporaryGo e o r
      pure r)) : Ev w C (.Attribute e name pos) v := by
  refine ⟨fun A Q E s F N q => ?_⟩
  refine Attribute_any_ (he.go A _ E s F N fun k => ?_) hq
  exact get_own (m := C.m) F X (InstAt.of_news N hx hd) hg hh ha hn hl hv (q _)
theorem ev_item_tup {t : Addr} {l : List Value} {k : Int} {j : Nat} (he : Ev w C e (.ref t)) (ht : (t, tupO l) ∈ C.led) (hlo : -(2 ^ 63) ≤ k) (hhi : k < 2 ^ 63) (hj : seqIndex? k l.length = some j) (hx : l[j]? = some v) :
    Ev w C (.Subscript e (.Constant (.int k) kk p2) pos) v := by
  refine ⟨fun A Q E s F N q => ?_⟩
  refine Subscript_ (he.go A _ E s F N fun k' => ?_)
  refine wpAny_Constant_int ?_
  exact item_tupleT (News.isTup (News.sub (n2 := C.led) N fun p hp => hp) ht) hlo hhi hj hx (q _)
theorem ev_item_lit {D : Addr} {l : List Value} {n : Nat} {k : Int} (he : Ev w C e (.ref D)) (ht : (D, listOf l.toArray n) ∈ C.led) (h0 : 0 ≤ k) (hhi : k < 2 ^ 63) (hx : l[k.toNat]? = some v) :
    Ev w C (.Subscript e (.Constant (.int k) kk p2) pos) v := by
  refine ⟨fun A Q E s F N q => ?_⟩
  refine Subscript_ (he.go A _ E s F N fun k' => ?_)
  refine wpAny_Constant_int ?_
  exact list_item (news := C.led) N ht h0 hhi hx (q _)
theorem ev_item_list {D : Addr} {l : List Value} {n : Nat} {k : Int} {u : Tok} (he : Ev w C e (.ref D)) (hi : Ev w C e2 (.int k u)) (ht : (D, listOf l.toArray n) ∈ C.led) (h0 : 0 ≤ k) (hhi : k < 2 ^ 63) (hx : l[k.toNat]? = some v)
    (hs : subscripted e2 false (.ref D) (.int k u) = operate [.ref D, .int k u] (getItem (.ref D) (.int k u))) :
    Ev w C (.Subscript e e2 pos) v := by
  refine ⟨fun A Q E s F N q => ?_⟩
  refine Subscript_ (he.go A _ E s F N fun k' => ?_)
  refine hi.go A _ E _ F N fun k2 => ?_
  exact list_item (news := C.led) N ht h0 hhi hx (q _) hs
theorem ev_item_dict {d : Addr} {kvs : List (Str × Value)} {oe : Obj} {x : Str} {t : Tok} (he : Ev w C e (.ref d)) (hi : Ev w C e2 (.str x t)) (hp : (d, oe) ∈ C.led) (hd : oe.IsDictOf (PySem.strKind Challenge.rw_pq0456_01.row.prog w) kvs) (hl : valueAt kvs x = some v)
    (hs : subscripted e2 false (.ref d) (.str x t) = operate [.ref d, .str x t] (getItem (.ref d) (.str x t))) :
    Ev w C (.Subscript e e2 pos) v := by
  refine ⟨fun A Q E s F N q => ?_⟩
  refine Subscript_ (he.go A _ E s F N fun k' => ?_)
  refine hi.go A _ E _ F N fun k2 => ?_
  exact ent_item (news := C.led) N hp hd hl (q _) hs
-- tests
theorem te_eq_str {x y : Str} {t : Tok} (he : Ev w C e (.str x t)) (hb : (x == y) = b) : Te w C (.Compare e [.Eq] [.Constant (.str y) kk p2] pos) b := by
  refine ⟨fun A Q E s F N q => ?_⟩
  refine wpAny_isTrue_Compare1 (he.go A _ E s F N fun k => ?_)
  refine Constant_str (eq_str ?_)
  rw [hb]
  exact wpAny_truthy_bool (q _)
theorem te_none_yes (he : Ev w C e .none) : Te w C (.Compare e [.Is] [.Constant .none kk p2] pos) true := ⟨fun A Q E s F N q =>
  wpAny_isTrue_Compare1 (he.go A _ E s F N fun k => wpAny_Constant_none (wpAny_is_self (by rfl) (wpAny_truthy_bool (q _))))⟩
theorem te_none_no {x : Addr} (he : Ev w C e (.ref x)) : Te w C (.Compare e [.Is] [.Constant .none kk p2] pos) false := ⟨fun A Q E s F N q =>
  wpAny_isTrue_Compare1 (he.go A _ E s F N fun k => wpAny_Constant_none (wpAny_is_other (by rfl) (by intro x; cases x) (wpAny_truthy_bool (q _))))⟩
theorem te_some_yes {x : Addr} (he : Ev w C e (.ref x)) : Te w C (.Compare e [.IsNot] [.Constant .none kk p2] pos) true := ⟨fun A Q E s F N q =>
  wpAny_isTrue_Compare1 (he.go A _ E s F N fun k => wpAny_Constant_none (wpAny_isNot_other (by rfl) (by intro x; cases x) (wpAny_truthy_bool (q _))))⟩
theorem te_some_no (he : Ev w C e .none) : Te w C (.Compare e [.IsNot] [.Constant .none kk p2] pos) false := ⟨fun A Q E s F N q =>
  wpAny_isTrue_Compare1 (he.go A _ E s F N fun k => wpAny_Constant_none (wpAny_isNot_self (by rfl) (wpAny_truthy_bool (q _))))⟩
theorem te_in_yes {d : Addr} {kvs : List (Str × Value)} {oe : Obj} {x : Str} {t : Tok} {v : Value} (hi : Ev w C e (.str x t)) (he : Ev w C e2 (.ref d)) (hp : (d, oe) ∈ C.led) (hd : oe.IsDictOf (PySem.strKind Challenge.rw_pq0456_01.row.prog w) kvs) (lo : (d == sysModules) = false) (hb : valueAt kvs x = some v)
    (hm : behindInMarks .In e2 = false) : Te w C (.Compare e [.In] [e2] pos) true :=
  ⟨fun A _ E s F N q => wpAny_isTrue_Compare1 (hi.go A _ E s F N fun k => he.go A _ E _ F N fun k2 => ent_in (news := C.led) N hp hd lo (isSome_some hb) (wpAny_truthy_bool (q _))) hm⟩
theorem te_in_no {d : Addr} {kvs : List (Str × Value)} {oe : Obj} {x : Str} {t : Tok} (hi : Ev w C e (.str x t)) (he : Ev w C e2 (.ref d)) (hp : (d, oe) ∈ C.led) (hd : oe.IsDictOf (PySem.strKind Challenge.rw_pq0456_01.row.prog w) kvs) (lo : (d == sysModules) = false) (hb : valueAt kvs x = none)
    (hm : behindInMarks .In e2 = false) : Te w C (.Compare e [.In] [e2] pos) false :=
  ⟨fun A _ E s F N q => wpAny_isTrue_Compare1 (hi.go A _ E s F N fun k => he.go A _ E _ F N fun k2 => ent_in (news := C.led) N hp hd lo (isSome_none hb) (wpAny_truthy_bool (q _))) hm⟩
theorem te_notin_no {d : Addr} {kvs : List (Str × Value)} {oe : Obj} {x : Str} {t : Tok} {v : Value} (hi : Ev w C e (.str x t)) (he : Ev w C e2 (.ref d)) (hp : (d, oe) ∈ C.led) (hd : oe.IsDictOf (PySem.strKind Challenge.rw_pq0456_01.row.prog w) kvs) (lo : (d == sysModules) = false) (hb : valueAt kvs x = some v)
    (hm : behindInMarks .NotIn e2 = false) : Te w C (.Compare e [.NotIn] [e2] pos) false :=
  ⟨fun A _ E s F N q => wpAny_isTrue_Compare1 (hi.go A _ E s F N fun k => he.go A _ E _ F N fun k2 => ent_notin (news := C.led) N hp hd lo (isSome_some hb) (wpAny_truthy_bool (q _))) hm⟩
theorem te_notin_yes {d : Addr} {kvs : List (Str × Value)} {oe : Obj} {x : Str} {t : Tok} (hi : Ev w C e (.str x t)) (he : Ev w C e2 (.ref d)) (hp : (d, oe) ∈ C.led) (hd : oe.IsDictOf (PySem.strKind Challenge.rw_pq0456_01.row.prog w) kvs) (lo : (d == sysModules) = false) (hb : valueAt kvs x = none)
    (hm : behindInMarks .NotIn e2 = false) : Te w C (.Compare e [.NotIn] [e2] pos) true :=
  ⟨fun A _ E s F N q => wpAny_isTrue_Compare1 (hi.go A _ E s F N fun k => he.go A _ E _ F N fun k2 => ent_notin (news := C.led) N hp hd lo (isSome_none hb) (wpAny_truthy_bool (q _))) hm⟩
theorem te_bool (he : Ev w C e (.bool b)) (hq : isTrue e C.env (eval e C.env) = (do let v ← eval e C.env; standAt e.pos; holding [v] (truthy v))) : Te w C e b := by
  refine ⟨fun A Q E s F N q => ?_⟩
  exact isTrue_plain (he.go A _ E s F N fun k => wpAny_truthy_bool (q _)) hq
-- and, or
structure Tw (w : World) (C : Cx) (e : PySem.Expr) (b : Bool) : Prop where
  go : ∀ (A : Around) (Q : Bool → Shared → Prop) (E : Value → Shared → Prop) (s : Shared) (whole : Sem Value), Fr C.h₀ C.L s.heap C.m → News C.h₀ C.L s.heap C.led → (∀ k, Q b { s with toks := k }) → wpAny (model Challenge.rw_pq0456_01.row.prog w) A (isTrue e C.env whole) Q E s
theorem te_tw (h : Tw w C e b) : Te w C e b := ⟨fun A Q E s F N q => h.go A Q E s _ F N q⟩
theorem tw_and_nil : Tw w C (.BoolOp .And [] pos) true := ⟨fun _ _ _ s _ _ _ q => isTrue_and_nil (q s.toks)⟩
theorem tw_or_nil : Tw w C (.BoolOp .Or [] pos) false := ⟨fun _ _ _ s _ _ _ q => isTrue_or_nil (q s.toks)⟩
theorem tw_and_no {rest : List PySem.Expr} (h : Te w C e false) : Tw w C (.BoolOp .And (e :: rest) pos) false := ⟨fun A _ E s _ F N q => isTrue_and (h.go A _ E s F N fun k => by simpa using q k)⟩
theorem tw_and_yes {rest : List PySem.Expr} (h : Te w C e true) (h2 : Tw w C (.BoolOp .And rest pos) b) : Tw w C (.BoolOp .And (e :: rest) pos) b := ⟨fun A Q E s whole F N q => isTrue_and (h.go A _ E s F N fun k => by
  simp only [if_true]
  exact h2.go A Q E _ whole F N q)⟩
theorem tw_or_yes {rest : List PySem.Expr} (h : Te w C e true) : Tw w C (.BoolOp .Or (e :: rest) pos) true := ⟨fun A _ E s _ F N q => isTrue_or (h.go A _ E s F N fun k => by simpa using q k)⟩
theorem tw_or_no {rest : List PySem.Expr} (h : Te w C e false) (h2 : Tw w C (.BoolOp .Or rest pos) b) : Tw w C (.BoolOp .Or (e :: rest) pos) b := ⟨fun A Q E s whole F N q => isTrue_or (h.go A _ E s F N fun k => by
  simp only [Bool.false_eq_true, if_false]
  exact h2.go A Q E _ whole F N q)⟩
structure AndK (b1 : Bool) (w : World) (C : Cx) (rest : List PySem.Expr) (pos : Pos) (b : Bool) : Prop where
  go : (b1 = false ∧ b = false) ∨ (b1 = true ∧ Tw w C (.BoolOp .And rest pos) b)
structure OrK (b1 : Bool) (w : World) (C : Cx) (rest : List PySem.Expr) (pos : Pos) (b : Bool) : Prop where
  go : (b1 = true ∧ b = true) ∨ (b1 = false ∧ Tw w C (.BoolOp .Or rest pos) b)
theorem AndK.no {rest : List PySem.Expr} : AndK false w C rest pos false := ⟨.inl ⟨rfl, rfl⟩⟩
theorem AndK.yes {rest : List PySem.Expr} (h : Tw w C (.BoolOp .And rest pos) b) : AndK true w C rest pos b := ⟨.inr ⟨rfl, h⟩⟩
theorem OrK.yes {rest : List PySem.Expr} : OrK true w C rest pos true := ⟨.inl ⟨rfl, rfl⟩⟩
theorem OrK.no {rest : List PySem.Expr} (h : Tw w C (.BoolOp .Or rest pos) b) : OrK false w C rest pos b := ⟨.inr ⟨rfl, h⟩⟩
theorem tw_and {rest : List PySem.Expr} {b1 : Bool} (h : Te w C e b1) (h2 : AndK b1 w C rest pos b) : Tw w C (.BoolOp .And (e :: rest) pos) b := by
  rcases h2.go with ⟨rfl, rfl⟩ | ⟨rfl, h3⟩
  · exact tw_and_no h
  · exact tw_and_yes h h3
theorem tw_or {rest : List PySem.Expr} {b1 : Bool} (h : Te w C e b1) (h2 : OrK b1 w C rest pos b) : Tw w C (.BoolOp .Or (e :: rest) pos) b := by
  rcases h2.go with ⟨rfl, rfl⟩ | ⟨rfl, h3⟩
  · exact tw_or_yes h
  · exact tw_or_no h h3
-- statements
section
variable {rest body orelse : List Stmt} {Q : Flow → Shared → Prop} {cn : Str} {cs : Scope} {a : Addr} {ccd : Value} {cl : List (Str × Addr)}
theorem s_assign {x : Str} (F : Fr h₀ L s.heap m) (N : News h₀ L s.heap led) (H : Ev w ⟨h₀, L, m, led, envX cn cs L a ccd cl⟩ e v)
    (h : ∀ h' k, Fr h₀ L h' (fun y => if y = x then some v else m y) → News h₀ L h' led → wpAny (model Challenge.rw_pq0456_01.row.prog w) A (execs rest (envX cn cs L a ccd cl)) Q E { s with heap := h', toks := k })
    (hk : cs.kind = .function := by rfl) (hx : (envX cn cs L a ccd cl).kindOf x = some .local := by rfl) (hs : swapsWith e (some (.Name x p2)) pos.line (envX cn cs L a ccd cl) = pure false := by rfl) :
    wpAny (model Challenge.rw_pq0456_01.row.prog w) A (execs (.Assign [.Name x p2] e pos :: rest) (envX cn cs L a ccd cl)) Q E s :=
  wpAny_execs_cons (wpAny_Assign_Name (H.go A _ E s F N fun k => storeX_L (s := { s with toks := k }) F N (fun h' F' N' => h h' _ F' N') hk hx) hs)
structure IfK (b : Bool) (w : World) (A : Around) (body orelse rest : List Stmt) (env : Env) (Q : Flow → Shared → Prop) (E : Value → Shared → Prop) (s : Shared) : Prop where
  go : ∀ K : Flow → Shared → Prop, Sq Challenge.rw_pq0456_01.row.prog w A rest env Q E K → ∀ k, wpAny (model Challenge.rw_pq0456_01.row.prog w) A (execs (if b then body else orelse) env) K E { s with toks := k }
theorem s_if (F : Fr h₀ L s.heap m) (N : News h₀ L s.heap led) (H : Te w ⟨h₀, L, m, led, env⟩ e b) (h : IfK b w A body orelse rest env Q E s) :
    wpAny (model Challenge.rw_pq0456_01.row.prog w) A (execs (.If e body orelse pos :: rest) env) Q E s :=
  stmt_cut fun K hK => wpAny_If (H.go A _ E s F N fun k => by
    have := h.go K hK k
    cases b <;> simpa using this)
theorem IfK.tt (h : ∀ K : Flow → Shared → Prop, Sq Challenge.rw_pq0456_01.row.prog w A rest env Q E K → ∀ k, wpAny (model Challenge.rw_pq0456_01.row.prog w) A (execs body env) K E { s with toks := k }) : IfK true w A body orelse rest env Q E s := ⟨by simpa using h⟩
theorem IfK.ff (h : ∀ K : Flow → Shared → Prop, Sq Challenge.rw_pq0456_01.row.prog w A rest env Q E K → ∀ k, wpAny (model Challenge.rw_pq0456_01.row.prog w) A (execs orelse env) K E { s with toks := k }) : IfK false w A body orelse rest env Q E s := ⟨by simpa using h⟩
theorem IfK.skip (h : ∀ k, wpAny (model Challenge.rw_pq0456_01.row.prog w) A (execs rest env) Q E { s with toks := k }) : IfK false w A body [] rest env Q E s := ⟨fun K hK k => by
  simp only [Bool.false_eq_true, if_false]
  exact wpAny_execs_nil (hK.next _ (h k))⟩
theorem Sq.last {K : Flow → Shared → Prop} (hK : Sq Challenge.rw_pq0456_01.row.prog w A [] env Q E K) : ∀ f s', Q f s' → K f s' := fun f s' q => by
  cases f with
  | next => exact hK.next s' (wpAny_execs_nil q)
  | brk => exact hK.brk s' q
  | cont => exact hK.cont s' q
  | ret v => exact hK.ret v s' q
theorem IfK.one (h : ∀ k, wpAny (model Challenge.rw_pq0456_01.row.prog w) A (execs body env) Q E { s with toks := k }) : IfK true w A body orelse [] env Q E s := ⟨fun K hK k => by
  simp only [if_true]
  exact wpAny_mono (h k) hK.last fun _ _ e => e⟩
theorem IfK.other (h : ∀ k, wpAny (model Challenge.rw_pq0456_01.row.prog w) A (execs orelse env) Q E { s with toks := k }) : IfK false w A body orelse [] env Q E s := ⟨fun K hK k => by
  simp only [Bool.false_eq_true, if_false]
  exact wpAny_mono (h k) hK.last fun _ _ e => e⟩
theorem s_return (F : Fr h₀ L s.heap m) (N : News h₀ L s.heap led) (H : Ev w ⟨h₀, L, m, led, env⟩ e v) (h : ∀ k, Q (.ret v) { s with toks := k }) :
    wpAny (model Challenge.rw_pq0456_01.row.prog w) A (execs (.Return (some e) pos :: rest) env) Q E s :=
  wpAny_execs_cons (wpAny_Return_some (H.go A _ E s F N fun k => h k))
end
end
end G456
namespace G456
open PySem PySem.W PyProof.Rows PySem.Calls

noncomputable abbrev sk (w : World) : PySem.KeyKind Challenge.rw_pq0456_01.row.prog w Str := PySem.strKind Challenge.rw_pq0456_01.row.prog w
abbrev Led := List (Addr × Obj)

noncomputable def nm : Nat → Str
  | 0 => "r"
  | 1 => "s"
  | _ => "t"
theorem nm_inj : ∀ i j, i < 3 → j < 3 → i ≠ j → nm i ≠ nm j := by
  intro i j hi hj hij
  match i, j with
  | 0, 0 => exact absurd rfl hij
  | 1, 1 => exact absurd rfl hij
  | 2, 2 => exact absurd rfl hij
  | 0, 1 => decide
  | 0, 2 => decide
  | 1, 0 => decide
  | 1, 2 => decide
  | 2, 0 => decide
  | 2, 1 => decide
  | n + 3, _ => omega
  | _, n + 3 => omega
theorem nm_top : ∀ i, ("top" : Str) ≠ nm i
  | 0 => by decide
  | 1 => by decide
  | _ + 2 => (by decide : ("top" : Str) ≠ "t")
theorem nm_len : ∀ i, (nm i).length = 1
  | 0 => by decide
  | 1 => by decide
  | _ + 2 => (by decide : ("t" : Str).length = 1)

noncomputable def menu : List (List Str) := [["x"], ["b", "y"], ["v"], ["b"], ["z"], ["x", "y"]]

inductive RowsO (w : World) (led : Led) (ro : Obj) (xs : List (List Str × Addr × Value)) : Prop
  | mk {es : Array DictEntry} {ep : Nat} (h1 : ro.ExactDict) (h2 : ro.data = .dict es ep) (h3 : es.toList = xs.map (PySem.entryOfKey (PySem.tupleKind (sk w)))) (h4 : (xs.map (·.1)).Nodup) (h5 : ∀ x ∈ xs, ∃ vs, (x.2.1, tupO vs) ∈ led ∧ PySem.ItemsAre (sk w) x.1 vs) : RowsO w led ro xs
theorem RowsO.mono {w : World} {led led' : Led} {ro : Obj} {xs : List (List Str × Addr × Value)} (R : RowsO w led ro xs) (k : ∀ p ∈ led, p ∈ led') : RowsO w led' ro xs := by
  cases R with
  | mk h1 h2 h3 h4 h5 => exact .mk h1 h2 h3 h4 fun x hx => (h5 x hx).imp fun vs h => ⟨k _ h.1, h.2⟩
theorem RowsO.at {w : World} {led : Led} {ra : Addr} {ro : Obj} {xs : List (List Str × Addr × Value)} {h₀ h : Heap} {L : Addr} (R : RowsO w led ro xs) (N : News h₀ L h led) (hr : (ra, ro) ∈ led) : h.DictOfH (PySem.tupleKind (sk w)) ra xs :=
  by
  cases R with
  | mk h1 h2 h3 h4 h5 => exact ⟨ro, _, _, N.get hr, h1, h2, h3, fun x hx => (h5 x hx).elim fun vs h => ⟨_, vs.toArray, _, N.get h.1, rfl, rfl, by simpa using h.2⟩, h4⟩

inductive ScopeIs (w : World) (led : Led) (x g : Addr) (kvs : List (Str × Value)) (num : Value) : Prop
  | mk {d : Addr} {t : Nat → Tok} {nm par knd path net mdl : Value} {n : Nat} {e : Addr} {oe : Obj} (h1 : (x, instObj 127 d) ∈ led) (h2 : (d, dictOf (scopeEs w.params t (.ref g) nm par knd path net mdl (.ref e) num) n) ∈ led) (h3 : (e, oe) ∈ led) (h4 : oe.IsDictOf (sk w) kvs) (h5 : (e == sysModules) = false) : ScopeIs w led x g kvs num
inductive RoutineIs (w : World) (led : Led) (rt : Addr) (sc : Value) : Prop
  | mk {rd : Addr} {tr : Nat → Tok} {rnum rpath risf raut rat rwid rsgn rpo rsl rbod rsrc rdis rmad : Value} {n : Nat} (h1 : (rt, instObj 155 rd) ∈ led) (h2 : (rd, dictOf (routineEs w.params tr rnum rpath risf raut rat rwid rsgn rpo rsl rbod rsrc sc rdis rmad) n) ∈ led) : RoutineIs w led rt sc
inductive DesignIs (w : World) (led : Led) (g rl sl : Addr) : Prop
  | mk {gdd : Addr} {tg : Nat → Tok} {sg as ga ud pr tp po ne bp : Value} {n : Nat} (h1 : (g, instObj 218 gdd) ∈ led) (h2 : (gdd, dictOf (designEs w.params tg sg as ga ud pr (.ref rl) (.ref sl) tp po .none ne bp) n) ∈ led) : DesignIs w led g rl sl
inductive TopIs (w : World) (led : Led) (g tx te : Addr) : Prop
  | mk {d : Addr} {t : Nat → Tok} {tn tk : Tok} {path : Str} {tp tw : Tok} {num : Value} {n : Nat} (h1 : (tx, instObj 127 d) ∈ led) (h2 : (d, dictOf (scopeEs w.params t (.ref g) (.str (Str.ofString "top") tn) .none (.str (Str.ofString "module") tk) (.str path tp) (.str (Str.ofString "wire") tw) .none (.ref te) num) n) ∈ led) (h3 : path.length ≤ 10) : TopIs w led g tx te
inductive InnIs (w : World) (led : Led) (g tx ix ie : Addr) : Prop
  | mk {d : Addr} {t : Nat → Tok} {nm' : Value} {tk : Tok} {path : Str} {tp tw : Tok} {num : Value} {n : Nat} (h1 : (ix, instObj 127 d) ∈ led) (h2 : (d, dictOf (scopeEs w.params t (.ref g) nm' (.ref tx) (.str (Str.ofString "generate") tk) (.str path tp) (.str (Str.ofString "wire") tw) .none (.ref ie) num) n) ∈ led) (h3 : path.length ≤ 10) : InnIs w led g tx ix ie
section
variable {w : World} {led led' : Led} (k : ∀ p ∈ led, p ∈ led')
include k
theorem ScopeIs.mono {x g : Addr} {kvs : List (Str × Value)} {num : Value} (S : ScopeIs w led x g kvs num) : ScopeIs w led' x g kvs num := by
  cases S with
  | mk h1 h2 h3 h4 h5 => exact .mk (k _ h1) (k _ h2) (k _ h3) h4 h5
theorem RoutineIs.mono {rt : Addr} {sc : Value} (S : RoutineIs w led rt sc) : RoutineIs w led' rt sc := by
  cases S with
  | mk h1 h2 => exact .mk (k _ h1) (k _ h2)
theorem DesignIs.mono {g rl sl : Addr} (S : DesignIs w led g rl sl) : DesignIs w led' g rl sl := by
  cases S with
  | mk h1 h2 => exact .mk (k _ h1) (k _ h2)
theorem TopIs.mono {g tx te : Addr} (S : TopIs w led g tx te) : TopIs w led' g tx te := by
  cases S with
  | mk h1 h2 h3 => exact .mk (k _ h1) (k _ h2) h3
theorem InnIs.mono {g tx ix ie : Addr} (S : InnIs w led g tx ix ie) : InnIs w led' g tx ix ie := by
  cases S with
  | mk h1 h2 h3 => exact .mk (k _ h1) (k _ h2) h3
end

inductive Ans (w : World) (led : Led) (g : Addr) (xs : List (List Str × Addr × Value)) (kvs : List (Str × Value)) : List Str → Prop
  | n1 {p : Str} : atKey xs [p] = none → valueAt kvs p = none → Ans w led g xs kvs [p]
  | l1 {p : Str} {v : Addr} {ta tb tc : Tok} : atKey xs [p] = none → valueAt kvs p = some (.ref v) → (v, tupO [.str (Str.ofString "local") ta, .int 0 tb, .int 4 tc, .bool false]) ∈ led → Ans w led g xs kvs [p]
  | s1 {p : Str} {v a t : Addr} {ta tb tc td : Tok} {k : Int} : atKey xs [p] = some (a, .ref t) → (t, tupO [.str (Str.ofString "sig") tc, .int k td]) ∈ led → valueAt kvs p = some (.ref v) → (v, tupO [.str (Str.ofString "sig") ta, .int k tb]) ∈ led → Ans w led g xs kvs [p]
  | b1 {p : Str} {v a t b : Addr} {ta tc tn : Tok} {kb : List (Str × Value)} {nb : Int} : atKey xs [p] = some (a, .ref t) → (t, tupO [.str (Str.ofString "scope") tc, .ref b]) ∈ led → valueAt kvs p = some (.ref v) → (v, tupO [.str (Str.ofString "scope") ta, .ref b]) ∈ led →
      ScopeIs w led b g kb (.int nb tn) → Ans w led g xs kvs [p]
  | n2 {p p' : Str} : atKey xs [p, p'] = none → valueAt kvs p = none → Ans w led g xs kvs [p, p']
  | x2 {p p' : Str} {v : Addr} {ta tb : Tok} {k : Int} : atKey xs [p, p'] = none → valueAt kvs p = some (.ref v) → (v, tupO [.str (Str.ofString "sig") ta, .int k tb]) ∈ led → Ans w led g xs kvs [p, p']
  | s2 {p p' : Str} {v a t b v2 : Addr} {ta tc td te tf : Tok} {k : Int} {kb : List (Str × Value)} {num : Value} : atKey xs [p, p'] = some (a, .ref t) → (t, tupO [.str (Str.ofString "sig") tc, .int k td]) ∈ led → valueAt kvs p = some (.ref v) → (v, tupO [.str (Str.ofString "scope") ta, .ref b]) ∈ led →
      ScopeIs w led b g kb num → valueAt kb p' = some (.ref v2) → (v2, tupO [.str (Str.ofString "sig") te, .int k tf]) ∈ led → Ans w led g xs kvs [p, p']
theorem Ans.mono {w : World} {led led' : Led} {g : Addr} {xs : List (List Str × Addr × Value)} {kvs : List (Str × Value)} {ps : List Str} (k : ∀ p ∈ led, p ∈ led') (A : Ans w led g xs kvs ps) : Ans w led' g xs kvs ps := by
  cases A with
  | n1 a b => exact .n1 a b
  | l1 a b c => exact .l1 a b (k _ c)
  | s1 a b c d => exact .s1 a (k _ b) c (k _ d)
  | b1 a b c d e => exact .b1 a (k _ b) c (k _ d) (e.mono k)
  | n2 a b => exact .n2 a b
  | x2 a b c => exact .x2 a b (k _ c)
  | s2 a b c d e f h => exact .s2 a (k _ b) c (k _ d) (e.mono k) f (k _ h)

inductive QRec (w : World) (led : Led) (g rt ra : Addr) (xs : List (List Str × Addr × Value)) : Prop
  | bare {ro : Obj} : RoutineIs w led rt .none → (ra, ro) ∈ led → RowsO w led ro xs → (ra == sysModules) = false → (∀ ps ∈ menu, atKey xs ps = none) → QRec w led g rt ra xs
  | full {ro : Obj} {sc : Addr} {kvs : List (Str × Value)} {num : Value} : RoutineIs w led rt (.ref sc) → ScopeIs w led sc g kvs num → (ra, ro) ∈ led → RowsO w led ro xs → (ra == sysModules) = false → (∀ ps ∈ menu, Ans w led g xs kvs ps) → QRec w led g rt ra xs
theorem QRec.mono {w : World} {led led' : Led} {g rt ra : Addr} {xs : List (List Str × Addr × Value)} (Q : QRec w led g rt ra xs) (k : ∀ p ∈ led, p ∈ led') : QRec w led' g rt ra xs := by
  cases Q with
  | bare a b c d e => exact .bare (a.mono k) (k _ b) (c.mono k) d e
  | full a b c d e f => exact .full (a.mono k) (b.mono k) (k _ c) (d.mono k) e fun ps hp => (f ps hp).mono k

inductive RoutAt (w : World) (led : Led) (g : Addr) (rts : List Value) (kT kI kB : List (Str × Value)) (j : Nat) : Prop
  | mk {ab : Nat} {rt u tp ra : Addr} {tu ti ta : Tok} {xs : List (List Str × Addr × Value)} (h1 : ab ≤ 1) (h2 : rts[j]? = some (.ref rt)) (h3 : valueAt (if ab = 0 then kT else kI) (nm j) = some (.ref u)) (h4 : (u, tupO [.str (Str.ofString "routine") tu, .int (j : Int) ti]) ∈ led)
    (h5 : valueAt (if ab = 0 then kI else kT) (nm j) = none) (h6 : valueAt kB (nm j) = some (.ref tp)) (h7 : (tp, tupO [.int (ab : Int) ta, .ref ra]) ∈ led) (h8 : xs.length ≤ 10) (h9 : QRec w led g rt ra xs) : RoutAt w led g rts kT kI kB j
theorem RoutAt.mono {w : World} {led led' : Led} {g : Addr} {rts : List Value} {kT kI kB : List (Str × Value)} {j : Nat} (R : RoutAt w led g rts kT kI kB j) (k : ∀ p ∈ led, p ∈ led') : RoutAt w led' g rts kT kI kB j := by
  cases R with
  | mk h1 h2 h3 h4 h5 h6 h7 h8 h9 => exact .mk h1 h2 h3 (k _ h4) h5 h6 (k _ h7) h8 (h9.mono k)

inductive Same (w : World) (led : Led) : Value → Value → Prop
  | none : Same w led .none .none
  | sig {v t : Addr} {ta tb tc td : Tok} {k : Int} : (v, tupO [.str (Str.ofString "sig") ta, .int k tb]) ∈ led → (t, tupO [.str (Str.ofString "sig") tc, .int k td]) ∈ led → Same w led (.ref v) (.ref t)
  | blk {v t b g : Addr} {ta tc tn : Tok} {kb : List (Str × Value)} {nb : Int} : (v, tupO [.str (Str.ofString "scope") ta, .ref b]) ∈ led → (t, tupO [.str (Str.ofString "scope") tc, .ref b]) ∈ led → ScopeIs w led b g kb (.int nb tn) → Same w led (.ref v) (.ref t)
theorem Same.mono {w : World} {led led' : Led} {a b : Value} (S : Same w led a b) (k : ∀ p ∈ led, p ∈ led') : Same w led' a b := by
  cases S with
  | none => exact .none
  | sig a b => exact .sig (k _ a) (k _ b)
  | blk a b c => exact .blk (k _ a) (k _ b) (c.mono k)
theorem Same.none_iff {w : World} {led : Led} {a b : Value} (S : Same w led a b) : a = .none ↔ b = .none := by
  cases S <;> simp
end G456
namespace G456
open PySem PySem.W PyProof.Rows PySem.Calls
local macro_rules | `(tactic| walk_at $s:str) => `(tactic| k_extra $s)
local macro_rules | `(tactic| k_room) => `(tactic| ktr_room)
local macro_rules | `(tactic| k_all) => `(tactic| first | assumption | walk_at "G all2")
local macro_rules | `(tactic| k_ownIn) => `(tactic| first | assumption | (refine List.mem_cons_of_mem _ ?_; k_ownIn) | (refine List.mem_append_right _ ?_; k_ownIn))
local macro_rules | `(tactic| k_allIn) => `(tactic| (intro p hp; k_ownIn))
local macro_rules | `(tactic| k_mem) => `(tactic| first | exact List.mem_cons_self | assumption | walk_at "G mem2" | (refine List.mem_cons_of_mem _ ?_; k_mem) | (refine List.mem_append_right _ ?_; k_mem))
local macro_rules | `(tactic| k_steps) => `(tactic| repeat' (first | (k_unfold; (try dsimp only)) | walk1 | walk_at "G back" | (dsimp only; walk1) | (leave1; walk_say "STEP leave1"; (try dsimp only)) | fail "no step"))
noncomputable def descBody : List Stmt := forBody (nthS 2 (fnBody (scMeth 6)))
noncomputable def descScope : Scope := fnScope (scMeth 6)
noncomputable def descEnd : List Stmt := tlS (tlS (tlS (fnBody (scMeth 6))))
theorem lines_d : True := by
  k_with_none
  k_with "G val" => first | exact rfl | assumption
  k_with "G isb" => first | exact isSome_some (by assumption) | exact isSome_none (by assumption) | exact isSome_none rfl | exact isSome_some rfl
  k_with "Ev Name" => (fail_if_success plain_pass); k_dflt (exact ev_name (by walk_at "G val"))
  k_with "Ev Constant" => (fail_if_success plain_pass); k_dflt (first | exact ev_none | exact ev_bool)
  k_with "Ev Attribute" => (fail_if_success plain_pass); k_dflt (exact ev_attr (by walk1) (by k_asm) (by k_mem) (by k_mem) (by k_is) (by k_is) (by k_is) (by k_is) (by k_get) (by first | assumption | k_handed) (by with_unfolding_all rfl))
  k_with "Ev Subscript" => (fail_if_success plain_pass); k_dflt (first
    | exact ev_item_tup (by walk1) (by k_mem) (by decide) (by decide) (by rfl) (by rfl)
    | exact ev_item_lit (by walk1) (by k_mem) (by decide) (by decide) (by first | rfl | assumption)
    | exact ev_item_dict (by walk1) (by walk1) (by k_mem) (by assumption) (by assumption) (by with_unfolding_all rfl)
    | exact ev_item_list (by walk1) (by walk1) (by k_mem) (by omega) (by omega) (by assumption) (by with_unfolding_all rfl))
  k_with "Tw BoolOp" => (fail_if_success plain_pass); k_dflt (first
    | exact tw_and_nil
    | exact tw_or_nil
    | exact tw_and (by walk1) (by walk1)
    | exact tw_or (by walk1) (by walk1))
  k_with "AndK true" => (fail_if_success plain_pass); k_dflt (exact AndK.yes (by walk1))
  k_with "AndK false" => (fail_if_success plain_pass); exact AndK.no
  k_with "OrK false" => (fail_if_success plain_pass); k_dflt (exact OrK.no (by walk1))
  k_with "OrK true" => (fail_if_success plain_pass); exact OrK.yes
  k_with "G eqs" => first | exact (rfl : (_ : Bool) = true) | exact (rfl : (_ : Bool) = false) | assumption
  k_with "Te Compare" => (fail_if_success plain_pass); k_dflt (first
    | exact te_eq_str (by walk1) (by walk_at "G eqs")
    | exact te_none_yes (by walk1)
    | exact te_none_no (by walk1)
    | exact te_some_yes (by walk1)
    | exact te_some_no (by walk1)
    | exact te_in_yes (by walk1) (by walk1) (by k_mem) (by assumption) (by assumption) (by walk_at "G val") (by with_unfolding_all rfl)
    | exact te_in_no (by walk1) (by walk1) (by k_mem) (by assumption) (by assumption) (by walk_at "G val") (by with_unfolding_all rfl)
    | exact te_notin_yes (by walk1) (by walk1) (by k_mem) (by assumption) (by assumption) (by walk_at "G val") (by with_unfolding_all rfl)
    | exact te_notin_no (by walk1) (by walk1) (by k_mem) (by assumption) (by assumption) (by walk_at "G val") (by with_unfolding_all rfl))
  k_with "Te BoolOp" => (fail_if_success plain_pass); k_dflt (exact te_tw (by walk1))
  k_with "Te Name" => (fail_if_success plain_pass); k_dflt (exact te_bool (by walk1) (by with_unfolding_all rfl))
  k_with "eval Name" => (fail_if_success plain_pass); k_dflt (refine ev_use (by k_asm) (by k_asm) (by walk1) (fun k' => ?_))
  k_with "eval Attribute" => (fail_if_success plain_pass); k_dflt (refine ev_use (by k_asm) (by k_asm) (by walk1) (fun k' => ?_))
  k_with "execs cons" => (fail_if_success plain_pass); k_dflt (first | refine stmt_one ?_ | refine stmt_cut (fun K hK => ?_))
  k_with "execs cons Assign" => (fail_if_success plain_pass); (k_dflt (refine s_assign (by k_asm) (by k_asm) (by walk1) (fun h' k' F' N' => ?_)); (try k_sweep))
  k_with "execs cons If" => (fail_if_success plain_pass); k_dflt (refine s_if (by k_asm) (by k_asm) (by walk1) ?_)
  k_with "IfK true" => (fail_if_success plain_pass); first | with_reducible refine IfK.one (fun k' => ?_) | with_reducible refine IfK.tt (fun K hK k' => ?_)
  k_with "IfK false" => (fail_if_success plain_pass); first | with_reducible refine IfK.skip (fun k' => ?_) | with_reducible refine IfK.other (fun k' => ?_) | with_reducible refine IfK.ff (fun K hK k' => ?_)
  k_with "execs cons Return" => (fail_if_success plain_pass); k_dflt (refine s_return (by k_asm) (by k_asm) (by walk1) (fun k' => ?_))
  k_with "G back" => first | with_reducible refine Sq.next (by with_reducible assumption) _ ?_ | with_reducible refine Sq.ret (by with_reducible assumption) _ _ ?_ | with_reducible refine Br.t (by with_reducible assumption) _ ?_ | with_reducible refine Br.f (by with_reducible assumption) _ ?_
  trivial

section
variable {w : World} {mean : ExcName → Option Value} {mg mb : Str → Option Value} {cn : Str} {L a : Addr} {ccd : Value} {g : Heap} {m : Str → Option Value} {led : Led}
theorem te_len {e e3 : PySem.Expr} {nm : Str} {p1 p2 p3 pos : Pos} {D : Addr} {l : List Value} {n : Nat} {i : Int} {t : Tok} (X : (K0 w.params).In g) (T : TT mean mg mb g)
    (he : Ev w ⟨g, L, m, led, envX cn descScope L a ccd []⟩ e (.int i t)) (h2 : Ev w ⟨g, L, m, led, envX cn descScope L a ccd []⟩ (.Attribute e3 nm p3) (.ref D)) (hl : (D, listOf l.toArray n) ∈ led) (hz : l.length ≤ 1000) (hi : i < l.length) :
    Te w ⟨g, L, m, led, envX cn descScope L a ccd []⟩ (.Compare e [.Lt] [.Call (.Name (Str.ofString "len") p1) [.Attribute e3 nm p3] [] p2] pos) true := by
  refine ⟨fun A Q E s F N q => wpAny_isTrue_Compare1 (he.go A _ E s F N fun k => ?_)⟩
  dsimp only at F N
  revert F N X
  k_fill
  intro F N X
  k_with "eval Attribute" => (refine h2.go _ _ _ _ (by k_asm) (by k_asm) (fun k2 => ?_))
  k_with "call builtin:len" => (k_here; (with_reducible show wpAny _ _ (call (Value.builtin "len") [Value.ref _]) _ _ _); k_dflt (refine list_len (by k_asm) (by k_mem) (by omega) ?_))
  k_with "compareOp Lt int int" => (k_here; refine lt_true (by with_reducible assumption) ?_)
  k_steps
  exact q _
end
structure TurnTo (w : World) (mean : ExcName → Option Value) (mg mb : Str → Option Value) (news : Led) (x : Addr) (o : Obj) (b : Bool) (p : Str) (r : Option (Addr × Bool)) : Prop where
  go : ∀ (A : Around) (cn : Str) (L a : Addr) (ccd : Value) (g : Heap) (m : Str → Option Value) (led : Led) (s : Shared) (K : Flow → Shared → Prop) (E : Value → Shared → Prop) (en : Addr) (tp : Tok),
    Fr g L s.heap m → News g L s.heap led → (K0 w.params).In g → TT mean mg mb g → (∀ q ∈ news, q ∈ led) → (en, o) ∈ led → m "self" = some (.ref x) → m "entry" = some (.ref en) → m "within" = some (.bool b) → m "name" = some (.str p tp) →
    (r = none → ∀ h' k m', Fr g L h' m' → News g L h' led → K (.ret .none) { s with heap := h', toks := k }) →
    (∀ v b', r = some (v, b') → ∀ h' k m', Fr g L h' m' → News g L h' led → m' "self" = some (.ref x) → m' "entry" = some (.ref v) → m' "within" = some (.bool b') → K .next { s with heap := h', toks := k }) →
    wpAny (model Challenge.rw_pq0456_01.row.prog w) A (execs descBody (envX cn descScope L a ccd [])) K E s
section
variable {w : World} {mean : ExcName → Option Value} {mg mb : Str → Option Value} {news : Led} {x : Addr} {b : Bool} {p : Str}
theorem to_scope_hit {sc g0 : Addr} {kvs : List (Str × Value)} {num : Value} (S : ScopeIs w news sc g0 kvs num) {te : Tok} {v : Addr} (hv : valueAt kvs p = some (.ref v)) : TurnTo w mean mg mb news x (tupO [.str (Str.ofString "scope") te, .ref sc]) b p (some (v, b)) := by
  obtain ⟨h1, h2, h3, h4, h5⟩ := S
  refine ⟨fun A cn L a ccd g m led s K E en tp F N X T hs men hself hen hin hnm hk1 hk2 => ?_⟩
  have h1 := hs _ h1
  have h2 := hs _ h2
  have h3 := hs _ h3
  revert F X N
  k_fill
  intro F X N
  dsimp only [descBody, scMeth, nthS, hdS, tlS, forBody, fnBody, clsBody, Challenge.pw_pq0456_01]
  k_with "Te Compare" => (fail_if_success plain_pass); k_dflt (exact te_len (by assumption) (by assumption) (by walk1) (by walk1) (by k_mem) (by omega) (by assumption))
  k_steps
  exact hk2 _ _ rfl _ _ _ (by k_asm) (by k_asm) (by walk_at "G val") (by walk_at "G val") (by walk_at "G val")
theorem to_scope_miss {sc g0 : Addr} {kvs : List (Str × Value)} {num : Value} (S : ScopeIs w news sc g0 kvs num) {te : Tok} (hv : valueAt kvs p = none) : TurnTo w mean mg mb news x (tupO [.str (Str.ofString "scope") te, .ref sc]) b p (none) := by
  obtain ⟨h1, h2, h3, h4, h5⟩ := S
  refine ⟨fun A cn L a ccd g m led s K E en tp F N X T hs men hself hen hin hnm hk1 hk2 => ?_⟩
  have h1 := hs _ h1
  have h2 := hs _ h2
  have h3 := hs _ h3
  revert F X N
  k_fill
  intro F X N
  dsimp only [descBody, scMeth, nthS, hdS, tlS, forBody, fnBody, clsBody, Challenge.pw_pq0456_01]
  k_with "Te Compare" => (fail_if_success plain_pass); k_dflt (exact te_len (by assumption) (by assumption) (by walk1) (by walk1) (by k_mem) (by omega) (by assumption))
  k_steps
  exact hk1 rfl _ _ _ (by k_asm) (by k_asm)
theorem to_rt_none {g0 rl sl rt : Addr} {kx : List (Str × Value)} {nx : Value} {nr : Nat} {rts : List Value} {tu ti : Tok} {j : Nat} (Sx : ScopeIs w news x g0 kx nx) (D : DesignIs w news g0 rl sl) (mr : (rl, listOf rts.toArray nr) ∈ news) (hr : rts.length ≤ 10) (hri : rts[j]? = some (.ref rt)) (R : RoutineIs w news rt .none) : TurnTo w mean mg mb news x (tupO [.str (Str.ofString "routine") tu, .int (j : Int) ti]) b p (none) := by
  obtain ⟨a1, a2, -, -, -⟩ := Sx
  obtain ⟨b1, b2⟩ := D
  obtain ⟨c1, c2⟩ := R
  have hj : j < rts.length := by
    rcases Nat.lt_or_ge j rts.length with h | h
    · exact h
    · rw [List.getElem?_eq_none h] at hri; cases hri
  have hi0 : (0 : Int) ≤ (j : Int) := Int.natCast_nonneg j
  have hi1 : (j : Int) < (rts.length : Int) := Int.ofNat_lt.mpr hj
  have hri' : rts[((j : Int)).toNat]? = some (.ref rt) := by simpa using hri
  refine ⟨fun A cn L a ccd g m led s K E en tp F N X T hs men hself hen hin hnm hk1 hk2 => ?_⟩
  have a1 := hs _ a1
  have a2 := hs _ a2
  have b1 := hs _ b1
  have b2 := hs _ b2
  have c1 := hs _ c1
  have c2 := hs _ c2
  have mr := hs _ mr
  revert F X N
  k_fill
  intro F X N
  dsimp only [descBody, scMeth, nthS, hdS, tlS, forBody, fnBody, clsBody, Challenge.pw_pq0456_01]
  k_with "Te Compare" => (fail_if_success plain_pass); k_dflt (exact te_len (by assumption) (by assumption) (by walk1) (by walk1) (by k_mem) (by omega) (by assumption))
  k_steps
  exact hk1 rfl _ _ _ (by k_asm) (by k_asm)
theorem to_rt_hit {g0 rl sl rt : Addr} {kx : List (Str × Value)} {nx : Value} {nr : Nat} {rts : List Value} {tu ti : Tok} {j : Nat} (Sx : ScopeIs w news x g0 kx nx) (D : DesignIs w news g0 rl sl) (mr : (rl, listOf rts.toArray nr) ∈ news) (hr : rts.length ≤ 10) (hri : rts[j]? = some (.ref rt)) {sc g1 : Addr} {kvs : List (Str × Value)} {num : Value} (R : RoutineIs w news rt (.ref sc)) (S : ScopeIs w news sc g1 kvs num) {v : Addr} (hv : valueAt kvs p = some (.ref v)) : TurnTo w mean mg mb news x (tupO [.str (Str.ofString "routine") tu, .int (j : Int) ti]) b p (some (v, true)) := by
  obtain ⟨h1, h2, h3, h4, h5⟩ := S
  obtain ⟨a1, a2, -, -, -⟩ := Sx
  obtain ⟨b1, b2⟩ := D
  obtain ⟨c1, c2⟩ := R
  have hj : j < rts.length := by
    rcases Nat.lt_or_ge j rts.length with h | h
    · exact h
    · rw [List.getElem?_eq_none h] at hri; cases hri
  have hi0 : (0 : Int) ≤ (j : Int) := Int.natCast_nonneg j
  have hi1 : (j : Int) < (rts.length : Int) := Int.ofNat_lt.mpr hj
  have hri' : rts[((j : Int)).toNat]? = some (.ref rt) := by simpa using hri
  refine ⟨fun A cn L a ccd g m led s K E en tp F N X T hs men hself hen hin hnm hk1 hk2 => ?_⟩
  have h1 := hs _ h1
  have h2 := hs _ h2
  have h3 := hs _ h3
  have a1 := hs _ a1
  have a2 := hs _ a2
  have b1 := hs _ b1
  have b2 := hs _ b2
  have c1 := hs _ c1
  have c2 := hs _ c2
  have mr := hs _ mr
  revert F X N
  k_fill
  intro F X N
  dsimp only [descBody, scMeth, nthS, hdS, tlS, forBody, fnBody, clsBody, Challenge.pw_pq0456_01]
  k_with "Te Compare" => (fail_if_success plain_pass); k_dflt (exact te_len (by assumption) (by assumption) (by walk1) (by walk1) (by k_mem) (by omega) (by assumption))
  k_steps
  exact hk2 _ _ rfl _ _ _ (by k_asm) (by k_asm) (by walk_at "G val") (by walk_at "G val") (by walk_at "G val")
theorem to_rt_miss {g0 rl sl rt : Addr} {kx : List (Str × Value)} {nx : Value} {nr : Nat} {rts : List Value} {tu ti : Tok} {j : Nat} (Sx : ScopeIs w news x g0 kx nx) (D : DesignIs w news g0 rl sl) (mr : (rl, listOf rts.toArray nr) ∈ news) (hr : rts.length ≤ 10) (hri : rts[j]? = some (.ref rt)) {sc g1 : Addr} {kvs : List (Str × Value)} {num : Value} (R : RoutineIs w news rt (.ref sc)) (S : ScopeIs w news sc g1 kvs num) (hv : valueAt kvs p = none) : TurnTo w mean mg mb news x (tupO [.str (Str.ofString "routine") tu, .int (j : Int) ti]) b p (none) := by
  obtain ⟨h1, h2, h3, h4, h5⟩ := S
  obtain ⟨a1, a2, -, -, -⟩ := Sx
  obtain ⟨b1, b2⟩ := D
  obtain ⟨c1, c2⟩ := R
  have hj : j < rts.length := by
    rcases Nat.lt_or_ge j rts.length with h | h
    · exact h
    · rw [List.getElem?_eq_none h] at hri; cases hri
  have hi0 : (0 : Int) ≤ (j : Int) := Int.natCast_nonneg j
  have hi1 : (j : Int) < (rts.length : Int) := Int.ofNat_lt.mpr hj
  have hri' : rts[((j : Int)).toNat]? = some (.ref rt) := by simpa using hri
  refine ⟨fun A cn L a ccd g m led s K E en tp F N X T hs men hself hen hin hnm hk1 hk2 => ?_⟩
  have h1 := hs _ h1
  have h2 := hs _ h2
  have h3 := hs _ h3
  have a1 := hs _ a1
  have a2 := hs _ a2
  have b1 := hs _ b1
  have b2 := hs _ b2
  have c1 := hs _ c1
  have c2 := hs _ c2
  have mr := hs _ mr
  revert F X N
  k_fill
  intro F X N
  dsimp only [descBody, scMeth, nthS, hdS, tlS, forBody, fnBody, clsBody, Challenge.pw_pq0456_01]
  k_with "Te Compare" => (fail_if_success plain_pass); k_dflt (exact te_len (by assumption) (by assumption) (by walk1) (by walk1) (by k_mem) (by omega) (by assumption))
  k_steps
  exact hk1 rfl _ _ _ (by k_asm) (by k_asm)
theorem to_sig {ts : Tok} {u : Value} : TurnTo w mean mg mb news x (tupO [.str (Str.ofString "sig") ts, u]) b p (none) := by
  refine ⟨fun A cn L a ccd g m led s K E en tp F N X T hs men hself hen hin hnm hk1 hk2 => ?_⟩
  revert F X N
  k_fill
  intro F X N
  dsimp only [descBody, scMeth, nthS, hdS, tlS, forBody, fnBody, clsBody, Challenge.pw_pq0456_01]
  k_with "Te Compare" => (fail_if_success plain_pass); k_dflt (exact te_len (by assumption) (by assumption) (by walk1) (by walk1) (by k_mem) (by omega) (by assumption))
  k_steps
  exact hk1 rfl _ _ _ (by k_asm) (by k_asm)
end
inductive Ends : Obj → Bool → Bool → Prop
  | f {o : Obj} : Ends o false true
  | o {tag : Str} {t : Tok} {u : Value} : (tag == Str.ofString "local") = false → Ends (tupO [.str tag t, u]) true true
  | l {t : Tok} {u1 u2 u3 : Value} : Ends (tupO [.str (Str.ofString "local") t, u1, u2, u3]) true false
inductive Dsc (w : World) (mean : ExcName → Option Value) (mg mb : Str → Option Value) (news : Led) (x : Addr) : Addr → Obj → Bool → List Str → Value → Prop
  | done {en : Addr} {o : Obj} {b keep : Bool} : Ends o b keep → Dsc w mean mg mb news x en o b [] (if keep then .ref en else .none)
  | stop {en : Addr} {o : Obj} {b : Bool} {p : Str} {ps : List Str} : TurnTo w mean mg mb news x o b p none → Dsc w mean mg mb news x en o b (p :: ps) .none
  | step {en v : Addr} {o o' : Obj} {b b' : Bool} {p : Str} {ps : List Str} {r : Value} : TurnTo w mean mg mb news x o b p (some (v, b')) → (v, o') ∈ news → Dsc w mean mg mb news x v o' b' ps r → Dsc w mean mg mb news x en o b (p :: ps) r
theorem strsAre_cons {p : Str} {ps : List Str} {vals : List Value} (h : StrsAre vals (p :: ps)) : ∃ tp vs, vals = .str p tp :: vs ∧ StrsAre vs ps := by
  cases h with
  | cons _ _ r => exact ⟨_, _, rfl, r⟩
theorem desc_end {w : World} {A : Around} {cn : Str} {L a : Addr} {ccd : Value} {g : Heap} {m : Str → Option Value} {led : List (Addr × Obj)} {s : Shared} {K : Flow → Shared → Prop} {E : Value → Shared → Prop} {en : Addr} {o : Obj} {b keep : Bool} (H : Ends o b keep)
    (F : Fr g L s.heap m) (N : News g L s.heap led) (X : (K0 w.params).In g) (mo : (en, o) ∈ led) (hen : m "entry" = some (.ref en)) (hin : m "within" = some (.bool b))
    (hk : ∀ h' k m', Fr g L h' m' → News g L h' led → K (.ret (if keep then .ref en else .none)) { s with heap := h', toks := k }) :
    wpAny (model Challenge.rw_pq0456_01.row.prog w) A (execs descEnd (envX cn descScope L a ccd [])) K E s := by
  revert F X N
  k_fill
  intro F X N
  dsimp only [descEnd, scMeth, nthS, hdS, tlS, forBody, fnBody, clsBody, Challenge.pw_pq0456_01]
  cases H with
  | f => 
    k_steps
    exact hk _ _ _ (by k_asm) (by k_asm)
  | o ht => 
    k_with "Te Compare" => (fail_if_success plain_pass); k_dflt (exact te_eq_str (by walk1) (by assumption))
    k_steps
    exact hk _ _ _ (by k_asm) (by k_asm)
  | l => 
    k_steps
    exact hk _ _ _ (by k_asm) (by k_asm)
theorem desc_loop {w : World} {mean : ExcName → Option Value} {mg mb : Str → Option Value} {news : List (Addr × Obj)} {x : Addr} {v : Value} {A : Around} {cn : Str} {L a : Addr} {ccd : Value} {g : Heap} {led : List (Addr × Obj)} {s : Shared} {Q : Flow → Shared → Prop} {E : Value → Shared → Prop}
    (X : (K0 w.params).In g) (T : TT mean mg mb g) (hs : ∀ q ∈ news, q ∈ led) {en : Addr} {o : Obj} {b : Bool} {ps : List Str} (D : Dsc w mean mg mb news x en o b ps v)
    (hret : v = .none → ∀ h k m', Fr g L h m' → News g L h led → Q (.ret .none) { s with heap := h, toks := k })
    (hend : ∀ en o b keep h k m', (if keep then Value.ref en else .none) = v → Ends o b keep → (en, o) ∈ led → m' "entry" = some (.ref en) → m' "within" = some (.bool b) → Fr g L h m' → News g L h led → Q .next { s with heap := h, toks := k }) :
    ∀ (vals : List Value) (m : Str → Option Value), StrsAre vals ps → m "self" = some (.ref x) → m "entry" = some (.ref en) → m "within" = some (.bool b) → (en, o) ∈ led →
      LR Challenge.rw_pq0456_01.row.prog w A E g (envX cn descScope L a ccd []) "name" descBody Q led s vals m := by
  induction D with
  | done e =>
    intro vals m hi h1 h2 h3 h4
    cases hi
    exact LR.done fun h tk F N => hend _ _ _ _ _ _ _ rfl e h4 h2 h3 F N
  | stop t =>
    intro vals m hi h1 h2 h3 h4
    obtain ⟨tp, vs, rfl, r⟩ := strsAre_cons hi
    · refine LR.turn fun own h tk F N => ?_
      refine t.go _ _ _ _ _ _ _ (own ++ led) _ _ _ _ _ F N X T (fun q hq => List.mem_append_right _ (hs q hq)) (List.mem_append_right _ h4) h1 h2 h3 rfl (fun _ h' k m' F' N' => ?_) (fun v b' he => nomatch he)
      exact hret rfl _ _ _ F' (News.sub N' fun q hq => List.mem_append_right _ hq)
  | step t mo _ ih =>
    intro vals m hi h1 h2 h3 h4
    obtain ⟨tp, vs, rfl, r⟩ := strsAre_cons hi
    · refine LR.turn fun own h tk F N => ?_
      refine t.go _ _ _ _ _ _ _ (own ++ led) _ _ _ _ _ F N X T (fun q hq => List.mem_append_right _ (hs q hq)) (List.mem_append_right _ h4) h1 h2 h3 rfl (fun he => nomatch he) (fun v b' he h' k m' F' N' e1 e2 e3 => ?_)
      cases he
      exact ⟨h', k, m', rfl, F', N', ih hret hend vs m' r e1 e2 e3 (hs _ mo)⟩
theorem desc_is {w : World} {mean : ExcName → Option Value} {mg mb : Str → Option Value} {news : List (Addr × Obj)} {x pl : Addr} {v : Value} {vals : List Value} {ps : List Str} {np : Nat} (H : ∀ en t, Dsc w mean mg mb news x en (tupO [.str (Str.ofString "scope") t, .ref x]) false ps v)
    (mp : (pl, listOf vals.toArray np) ∈ news) (hp : StrsAre vals ps) : DescIs w mean mg mb news x pl v := by
  intro dp un gd cn cs a ccd cl outer A₀ base h₀ L m led s Q E B F X N hs T hk hd hu ret
  revert B F X N T
  k_fill
  intro B F X N T
  have mpl := hs _ mp
  k_with "exec For Name Name cons nil" => (k_here; (rename Fr _ _ _ _ => lF'); (with_unfolding_all refine For_invVF lF' (by exact rfl) (by exact rfl) ?_))
  k_with "pyIter ref" => (k_here; (with_reducible show wpAny _ _ (pyIter (Value.ref _)) (fun it s₂ => LoopAtV _ _ _ _ _ _ _ _ _ it s₂) _ _); (with_unfolding_all refine iter_LR (by rfl) (by k_asm) (by k_asm) (by k_mem) ?_))
  refine wpAny_call ?_
  k_dflt ktr_enter
  dsimp only [fBody, fStmt, nthS, hdS, tlS, fnBody, clsBody, Challenge.pw_pq0456_01]
  clear B F T N
  (rename Fr _ _ _ _ => F8)
  obtain ⟨m9, F9, eg0, eg1⟩ := fr_gen (fun m => m "self" = some (.ref x) ∧ m "parts" = some (.ref pl)) F8 ⟨rfl, rfl⟩
  clear F8
  refine toks_any (s := s) fun k9 => ?_
  k_steps
  refine desc_loop (by assumption) (by assumption) (fun q hq => List.mem_cons_of_mem _ (hs q hq)) (H _ _) (fun e h k m' F N => ?_) (fun en o b keep h k m' e1 e2 e3 e4 e5 F N => ?_) vals _ hp (by first | exact rfl | exact eg0) (by first | exact rfl | exact eg0) (by first | exact rfl | exact eg0) (.head _)
  · subst e
    k_steps
    exact ret _ _ (by k_asm) (News.sub (by k_asm) (by k_allIn))
  · refine Sq.next (by assumption) _ ?_
    refine desc_end e2 F N (by assumption) e3 e4 e5 (fun h' k' m2 F' N' => ?_)
    rw [e1]
    clear F N
    k_steps
    exact ret _ _ (by k_asm) (News.sub (by k_asm) (by k_allIn))
section
variable {prog : Program} {w : World} {A : Around} {E : Value → Shared → Prop} {s : Shared} {h₀ : Heap} {L : Addr} {news : List (Addr × Obj)}
theorem parts_join {pl : Addr} {ps : List Value} {ys : List Str} {n : Nat} {t : Tok} {Q : Value → Shared → Prop} (N : News h₀ L s.heap news) (hp : (pl, listOf ps.toArray n) ∈ news) (hi : StrsAre ps ys) (hw : (ys.map (·.length)).sum + ys.length ≤ 1048576)
    (h : ∀ u t' k, Q (.str u t') { s with toks := k }) : wpAny (model prog w) A (call (.builtin "str.join") [.str (Str.ofString ".") t, .ref pl]) Q E s :=
  join_listW (News.isList N hp) (by simpa using hi) (by decide +kernel) hw fun t' k => h _ t' k
theorem ne_false {x y : Str} {t u : Tok} {Q : Value → Shared → Prop} (hab : x ≠ y) (h : Q (.bool false) s) : wpAny (model prog w) A (compareOp .Eq (.str x t) (.str y u)) Q E s := by
  refine eq_str ?_
  rw [show (x == y) = false from by simpa using hab]; exact h
end
theorem tailOk_52 : TailOk "Exception" [.ref 39, .type "Exception", .type "BaseException", .type "object"] := ⟨by decide +kernel, by decide +kernel, by decide +kernel, by decide +kernel⟩
theorem excMro_mk {K : Frag} {C : Addr} {cd : ClassData} {a b : Addr} (hc : clsIn K C = some cd) (h1 : cd.hasDict = true) (h2 : cd.mro = [.ref a, .ref b, .type "Exception", .type "BaseException", .type "object"]) : excMro K C := ⟨cd, a, b, hc, h1, h2⟩
theorem raisedP_sub {C dx : Addr} {base : Heap} {l : List Env} {e : Addr} {n1 n2 : List (Addr × Obj)} {h : Heap} (R : RaisedP C dx base l e (n1.filter fun p => p.1 != e) h) (k : ∀ p ∈ n2, p ∈ n1) (o : ∀ p ∈ n2, p.1 ≠ e) : RaisedP C dx base l e n2 h := by
  obtain ⟨B, h1, h2, r⟩ := R
  exact ⟨B, h1, fun q hq => h2 q (List.mem_filter.mpr ⟨k q hq, by simpa using o q hq⟩), r⟩

section
variable {w : World} {A : Around} {E : Value → Shared → Prop} {s : Shared} {K : Frag} {C dx L D x : Addr} {h₀ : Heap} {m : Str → Option Value} {news : List (Addr × Obj)} {prog : Program} {name : Str} {v : Value} {vs : Array Value}
theorem exc_setK {Q : Unit → Shared → Prop} {es es' : List DictEntry} {n n' : Nat} {news' : List (Addr × Obj)} (F : Fr h₀ L s.heap m) (X₀ : K.In h₀) (N : News h₀ L s.heap news) (hx : (x, excO C (some dx) vs) ∈ news) (_hdm : (dx, dictOf es n) ∈ news)
    (hs : findIn K (.ref C) "__setattr__" = some (some (.builtin "object.__setattr__"))) (hp : excMro K C) (ht : findIn K (.ref C) name = some none) (hl : (getL name es).isSome = true)
    (e : (putL name (PyData.keyHash w.params name) (.str name (s.toks + 1)) v es, putN name es n) = (es', n')) (U : Upd dx (dictOf es n) (dictOf es' n') news news') (hz : es'.length ≤ 1000)
    (h : ∀ h', Fr h₀ L h' m → News h₀ L h' news' → Q () { s with heap := h', toks := s.toks + 2 }) :
    wpAny (model prog w) A (setAttr (.ref x) name v) Q E s := exc_set1 F X₀ N hx _hdm U hs hp ht hl e hz h
end
structure AnsNo (w : World) (mean : ExcName → Option Value) (mg mb : Str → Option Value) (news : Led) (x : Addr) (n0 : Str) : Prop where
  go : ∀ (dp un : Nat) (gd : Option (List Code)) (cn : Str) (cs : Scope) (a : Addr) (ccd : Value) (cl : List (Str × Addr)) (outer : List Env) (A₀ : Around) (base h₀ : Heap) (L : Addr) (m : Str → Option Value) (led : Led) (s : Shared) (Q E : Value → Shared → Prop) (t : Tok),
    Below A₀ base outer h₀ → Fr h₀ L s.heap m → (K0 w.params).In h₀ → News h₀ L s.heap led → (∀ p ∈ news, p ∈ led) → TT mean mg mb h₀ → cs.kind = .function → dp < 600 → un < 4000 →
    (∀ h' tk', Fr h₀ L h' m → News h₀ L h' led → Q (.bool false) { s with heap := h', toks := tk' }) →
    wpAny (model Challenge.rw_pq0456_01.row.prog w) (ktrTop dp un gd cn cs L a ccd cl outer) (call (.ref 124) [.ref x, .str n0 t]) Q E s
theorem AnsNo.use {w : World} {mean : ExcName → Option Value} {mg mb : Str → Option Value} {news : Led} {x : Addr} {n0 : Str} {dp un : Nat} {gd : Option (List Code)} {cn : Str} {cs : Scope} {a : Addr} {ccd : Value} {cl : List (Str × Addr)} {outer : List Env} {A₀ : Around} {base h₀ : Heap} {L : Addr} {m : Str → Option Value} {led : Led} {s : Shared} {Q E : Value → Shared → Prop} {t : Tok}
    (D : AnsNo w mean mg mb news x n0) (B : Below A₀ base outer h₀) (F : Fr h₀ L s.heap m) (X : (K0 w.params).In h₀) (N : News h₀ L s.heap led) (hs : ∀ p ∈ news, p ∈ led) (T : TT mean mg mb h₀) (hk : cs.kind = .function) (hd : dp < 600) (hu : un < 4000)
    (ret : ∀ h' tk', Fr h₀ L h' m → News h₀ L h' led → Q (.bool false) { s with heap := h', toks := tk' }) :
    wpAny (model Challenge.rw_pq0456_01.row.prog w) (ktrTop dp un gd cn cs L a ccd cl outer) (call (.ref 124) [.ref x, .str n0 t]) Q E s := D.go _ _ _ _ _ _ _ _ _ _ _ _ _ _ _ _ _ _ _ B F X N hs T hk hd hu ret
theorem lines_r : True := by
  k_with_none
  k_with "G val" => first | exact rfl | assumption
  k_with "G isb" => first | exact isSome_some (by assumption) | exact isSome_none (by assumption) | exact isSome_none rfl | exact isSome_some rfl
  k_with "Ev Name" => (fail_if_success plain_pass); k_dflt (exact ev_name (by walk_at "G val"))
  k_with "Ev Constant" => (fail_if_success plain_pass); k_dflt (first | exact ev_none | exact ev_bool)
  k_with "Ev Attribute" => (fail_if_success plain_pass); k_dflt (exact ev_attr (by walk1) (by k_asm) (by k_mem) (by k_mem) (by k_is) (by k_is) (by k_is) (by k_is) (by k_get) (by first | assumption | k_handed) (by with_unfolding_all rfl))
  k_with "Ev Subscript" => (fail_if_success plain_pass); k_dflt (first
    | exact ev_item_tup (by walk1) (by k_mem) (by decide) (by decide) (by rfl) (by rfl)
    | exact ev_item_lit (by walk1) (by k_mem) (by decide) (by decide) (by first | rfl | assumption)
    | exact ev_item_dict (by walk1) (by walk1) (by k_mem) (by assumption) (by assumption) (by with_unfolding_all rfl)
    | exact ev_item_list (by walk1) (by walk1) (by k_mem) (by omega) (by omega) (by assumption) (by with_unfolding_all rfl))
  k_with "Tw BoolOp" => (fail_if_success plain_pass); k_dflt (first
    | exact tw_and_nil
    | exact tw_or_nil
    | exact tw_and (by walk1) (by walk1)
    | exact tw_or (by walk1) (by walk1))
  k_with "AndK true" => (fail_if_success plain_pass); k_dflt (exact AndK.yes (by walk1))
  k_with "AndK false" => (fail_if_success plain_pass); exact AndK.no
  k_with "OrK false" => (fail_if_success plain_pass); k_dflt (exact OrK.no (by walk1))
  k_with "OrK true" => (fail_if_success plain_pass); exact OrK.yes
  k_with "G eqs" => first | exact (rfl : (_ : Bool) = true) | exact (rfl : (_ : Bool) = false) | assumption
  k_with "Te Compare" => (fail_if_success plain_pass); k_dflt (first
    | exact te_eq_str (by walk1) (by walk_at "G eqs")
    | exact te_none_yes (by walk1)
    | exact te_none_no (by walk1)
    | exact te_some_yes (by walk1)
    | exact te_some_no (by walk1)
    | exact te_in_yes (by walk1) (by walk1) (by k_mem) (by assumption) (by assumption) (by walk_at "G val") (by with_unfolding_all rfl)
    | exact te_in_no (by walk1) (by walk1) (by k_mem) (by assumption) (by assumption) (by walk_at "G val") (by with_unfolding_all rfl)
    | exact te_notin_yes (by walk1) (by walk1) (by k_mem) (by assumption) (by assumption) (by walk_at "G val") (by with_unfolding_all rfl)
    | exact te_notin_no (by walk1) (by walk1) (by k_mem) (by assumption) (by assumption) (by walk_at "G val") (by with_unfolding_all rfl))
  k_with "Te BoolOp" => (fail_if_success plain_pass); k_dflt (exact te_tw (by walk1))
  k_with "Te Name" => (fail_if_success plain_pass); k_dflt (exact te_bool (by walk1) (by with_unfolding_all rfl))
  k_with "eval Name" => (fail_if_success plain_pass); k_dflt (refine ev_use (by k_asm) (by k_asm) (by walk1) (fun k' => ?_))
  k_with "eval Attribute" => (fail_if_success plain_pass); k_dflt (refine ev_use (by k_asm) (by k_asm) (by walk1) (fun k' => ?_))
  k_with "execs cons" => (fail_if_success plain_pass); k_dflt (first | refine stmt_one ?_ | refine stmt_cut (fun K hK => ?_))
  k_with "execs cons Assign" => (fail_if_success plain_pass); (k_dflt (refine s_assign (by k_asm) (by k_asm) (by walk1) (fun h' k' F' N' => ?_)); (try k_sweep))
  k_with "execs cons If" => (fail_if_success plain_pass); k_dflt (refine s_if (by k_asm) (by k_asm) (by walk1) ?_)
  k_with "IfK true" => (fail_if_success plain_pass); first | with_reducible refine IfK.one (fun k' => ?_) | with_reducible refine IfK.tt (fun K hK k' => ?_)
  k_with "IfK false" => (fail_if_success plain_pass); first | with_reducible refine IfK.skip (fun k' => ?_) | with_reducible refine IfK.other (fun k' => ?_) | with_reducible refine IfK.ff (fun K hK k' => ?_)
  k_with "execs cons Return" => (fail_if_success plain_pass); k_dflt (refine s_return (by k_asm) (by k_asm) (by walk1) (fun k' => ?_))
  k_with "G back" => first | with_reducible refine Sq.next (by with_reducible assumption) _ ?_ | with_reducible refine Sq.ret (by with_reducible assumption) _ _ ?_ | with_reducible refine Br.t (by with_reducible assumption) _ ?_ | with_reducible refine Br.f (by with_reducible assumption) _ ?_
  k_with "call builtin:str.join" => (k_here; (with_reducible show wpAny _ _ (call (Value.builtin _) [Value.str _ _, Value.ref _]) _ _ _); k_dflt (refine parts_join (by k_asm) (by k_mem) (by k_asm) (by k_asm) ?_); intro u' t' k')
  k_with "compareOp Eq str str" => (k_here; refine ne_false (by with_reducible assumption) ?_)
  k_with "call ref" => (k_here; (with_reducible show wpAny _ _ (call (Value.ref 110) _) _ _ _); k_dflt (refine DescIs.use (by assumption) (by k_asm) (by k_asm) (by k_asm) (by k_asm) (by ((rename (∀ p ∈ _, p ∈ _) => hsub9); intro p hp; replace hp := hsub9 p hp; k_ownIn)) (by k_asm) (by rfl) (by ktr_room) (by ktr_units) ?_); intro h' tk' F' N'; (try k_sweep))
  k_with "exec While Compare cons nil" => (k_here; k_dflt (refine whl_start 4 ?_))
  k_with "exec Raise some none" => (k_here; k_dflt (refine raise_P (C := 52) (fI := 36) (by k_asm) (by k_asm) (by k_asm) (by k_is) PySem.F.excBase_Exception tailOk_52 (by rfl) (by k_is) (by k_is) (by k_is) ?_ (by rfl) (by rfl) (by rfl) (by rfl) (by decide)))
  k_with "subscriptTail Name Constant ref int" => (k_here; k_dflt (refine list_item (by k_asm) (by k_mem) (by decide) (by decide) (by with_reducible assumption) ?_))
  k_with "And" => (k_here; (with_reducible show (_ ≤ sizeLine) ∧ _ ∧ _); refine ⟨by rw [sizeLine_eq]; exact Nat.le_of_ble_eq_true rfl, Fr.keep (by k_asm), ?_⟩; intro h' e' hM'; obtain ⟨t', F', N', o1', o2', o3'⟩ := made_news (by k_asm) (by k_asm) hM'; clear hM'; (try k_sweep))
  k_with "And" => (k_here; k_dflt (refine ⟨Fr.keep (by k_asm), ⟨_, _, News.get (by k_asm) (by k_mem)⟩, ?_⟩))
  k_with "setAttr ref" => (k_here; k_dflt (refine exc_setK (by k_asm) (by k_asm) (by k_asm) (by k_mem) (by k_mem) (by k_is) (by exact excMro_mk (by k_is) (by rfl) (by rfl)) (by k_is) (by k_get) (by k_put) (by k_upd) (by exact Nat.le_of_ble_eq_true rfl) ?_); intro h' F' N'; (try k_sweep))
  k_with "setAttr ref" => (k_here; k_dflt (refine exc_set0 (pre := []) (by k_asm) (by k_asm) (by k_asm) (by (intro p hp; cases hp)) (by k_all) (by k_is) (by exact excMro_mk (by k_is) (by rfl) (by rfl)) (by k_is) ?_); intro d' h' F' N' l1; simp only [List.nil_append] at N' l1; have l9 := fun p hp => Nat.ne_of_lt (l1 p hp); k_lt l1; (try k_sweep))
  k_with "leaving ref" => (k_here; k_dflt (refine leave_excP (C := 52) (by k_asm) (by k_asm) (by k_asm) (by k_mem) (by exact ⟨rfl, rfl⟩) (by exact rfl) (by exact rfl) ?_); intro h' R' U'; (try dsimp only at R' U' ⊢))
  k_with "call ref" => (k_here; (with_reducible show wpAny _ _ (call (Value.ref 124) _) _ _ _); k_dflt (refine AnsNo.use (by assumption) (by k_asm) (by k_asm) (by k_asm) (by k_asm) (by ((rename (∀ p ∈ _, p ∈ _) => hsub9); intro p hp; replace hp := hsub9 p hp; k_ownIn)) (by k_asm) (by rfl) (by ktr_room) (by ktr_units) ?_); intro h' tk' F' N'; (try k_sweep))
  trivial
theorem ans_top {w : World} {mean : ExcName → Option Value} {mg mb : Str → Option Value} {news : Led} {n0 : Str} {g tx te : Addr} (H : TopIs w news g tx te) (hn0 : ("top" : Str) ≠ n0) : AnsNo w mean mg mb news tx n0 := by
  obtain ⟨h1, h2, -⟩ := H
  refine ⟨fun dp un gd cn cs a ccd cl outer A₀ base h₀ L m led s Q E t B F X N hs T hk hd hu ret => ?_⟩
  have h1 := hs _ h1
  have h2 := hs _ h2
  revert B F X N T
  k_fill
  intro B F X N T
  refine wpAny_call ?_
  k_dflt ktr_enter
  dsimp only [fBody, fStmt, nthS, hdS, tlS, fnBody, clsBody, Challenge.pw_pq0456_01]
  clear B F T N
  k_steps
  exact ret _ _ (by k_asm) (by k_asm)
theorem ans_inn {w : World} {mean : ExcName → Option Value} {mg mb : Str → Option Value} {news : Led} {n0 : Str} {g tx ix ie : Addr} (H : InnIs w news g tx ix ie) : AnsNo w mean mg mb news ix n0 := by
  obtain ⟨h1, h2, -⟩ := H
  refine ⟨fun dp un gd cn cs a ccd cl outer A₀ base h₀ L m led s Q E t B F X N hs T hk hd hu ret => ?_⟩
  have h1 := hs _ h1
  have h2 := hs _ h2
  revert B F X N T
  k_fill
  intro B F X N T
  refine wpAny_call ?_
  k_dflt ktr_enter
  dsimp only [fBody, fStmt, nthS, hdS, tlS, fnBody, clsBody, Challenge.pw_pq0456_01]
  clear B F T N
  k_steps
  exact ret _ _ (by k_asm) (by k_asm)

noncomputable def resBody : List Stmt := match nthS 1 (fnBody (scMeth 7)) with
  | .While (body := b) .. => b
  | _ => []
noncomputable def resScope : Scope := fnScope (scMeth 7)
theorem res_found {w : World} {mean : ExcName → Option Value} {mg mb : Str → Option Value} {dp un : Nat} {gd : Option (List Code)} {cn : Str} {a : Addr} {ccd : Value} {outer : List Env} {A₀ : Around} {base g : Heap} {L : Addr} {m : Str → Option Value} {news led : Led} {s : Shared} {K : Flow → Shared → Prop} {E : Value → Shared → Prop} {x pl : Addr} {n0 : Str}
    (B : Below A₀ base outer g) (F : Fr g L s.heap m) (N : News g L s.heap led) (X : (K0 w.params).In g) (T : TT mean mg mb g) (hd : dp < 500) (hu : un < 3000) (hs : ∀ p ∈ news, p ∈ led) (hsc : m "scope" = some (.ref x)) (hpa : m "parts" = some (.ref pl)) {r : Addr} (D : DescIs w mean mg mb news x pl (.ref r)) {d : Addr} {t : Nat → Tok} {dsg nm par knd path net mdl en num : Value} {n : Nat} (mx : (x, instObj 127 d) ∈ led) (mxd : (d, dictOf (scopeEs w.params t dsg nm par knd path net mdl en num) n) ∈ led)
    (hk : ∀ h' k m', Fr g L h' m' → News g L h' led → K (.ret (.ref r)) { s with heap := h', toks := k }) :
    wpAny (model Challenge.rw_pq0456_01.row.prog w) (ktrTop dp un gd cn resScope L a ccd [] outer) (execs resBody (envX cn resScope L a ccd [])) K E s := by
  revert B F X N T
  k_fill
  intro B F X N T
  dsimp only [resBody, scMeth, nthS, hdS, tlS, fnBody, clsBody, Challenge.pw_pq0456_01]
  k_steps
  exact hk _ _ _ (by k_asm) (by k_asm)
theorem res_miss {w : World} {mean : ExcName → Option Value} {mg mb : Str → Option Value} {dp un : Nat} {gd : Option (List Code)} {cn : Str} {a : Addr} {ccd : Value} {outer : List Env} {A₀ : Around} {base g : Heap} {L : Addr} {m : Str → Option Value} {news led : Led} {s : Shared} {K : Flow → Shared → Prop} {E : Value → Shared → Prop} {x pl : Addr} {n0 : Str}
    (B : Below A₀ base outer g) (F : Fr g L s.heap m) (N : News g L s.heap led) (X : (K0 w.params).In g) (T : TT mean mg mb g) (hd : dp < 500) (hu : un < 3000) (hs : ∀ p ∈ news, p ∈ led) (hsc : m "scope" = some (.ref x)) (hpa : m "parts" = some (.ref pl)) (D : DescIs w mean mg mb news x pl .none) (H : AnsNo w mean mg mb news x n0) {ps : List Value} {np : Nat} {t0 : Tok} (mp : (pl, listOf ps.toArray np) ∈ led) (hp0 : ps[(0 : Int).toNat]? = some (.str n0 t0))
    {d : Addr} {t : Nat → Tok} {dsg nm par knd path net mdl en num : Value} {n : Nat} (mx : (x, instObj 127 d) ∈ led) (mxd : (d, dictOf (scopeEs w.params t dsg nm par knd path net mdl en num) n) ∈ led) (hpar : handedIn par = true) (hself : m "self" = m "self")
    (hk : ∀ h' k m', Fr g L h' m' → News g L h' led → m' "scope" = some par → m' "parts" = some (.ref pl) → m' "at" = m "at" → K .next { s with heap := h', toks := k }) :
    wpAny (model Challenge.rw_pq0456_01.row.prog w) (ktrTop dp un gd cn resScope L a ccd [] outer) (execs resBody (envX cn resScope L a ccd [])) K E s := by
  revert B F X N T
  k_fill
  intro B F X N T
  dsimp only [resBody, scMeth, nthS, hdS, tlS, fnBody, clsBody, Challenge.pw_pq0456_01]
  k_steps
  exact hk _ _ _ (by k_asm) (by k_asm) (by walk_at "G val") (by walk_at "G val") (by walk_at "G val")
noncomputable def resTest : PySem.Expr := match nthS 1 (fnBody (scMeth 7)) with
  | .While (test := b) .. => b
  | _ => default
inductive Rsc (w : World) (mean : ExcName → Option Value) (mg mb : Str → Option Value) (news : Led) (pl : Addr) (n0 : Str) : Nat → Value → Value → Prop
  | out : Rsc w mean mg mb news pl n0 0 .none .none
  | found {k : Nat} {x r : Addr} {d : Addr} {t : Nat → Tok} {dsg nm par knd path net mdl en num : Value} {n : Nat} (D : DescIs w mean mg mb news x pl (.ref r)) (mx : (x, instObj 127 d) ∈ news) (mxd : (d, dictOf (scopeEs w.params t dsg nm par knd path net mdl en num) n) ∈ news) : Rsc w mean mg mb news pl n0 k (.ref x) (.ref r)
  | miss {k : Nat} {x : Addr} {v : Value} {d : Addr} {t : Nat → Tok} {dsg nm par knd path net mdl en num : Value} {n : Nat} (D : DescIs w mean mg mb news x pl .none) (H : AnsNo w mean mg mb news x n0) (mx : (x, instObj 127 d) ∈ news) (mxd : (d, dictOf (scopeEs w.params t dsg nm par knd path net mdl en num) n) ∈ news)
      (hpar : handedIn par = true) (R : Rsc w mean mg mb news pl n0 k par v) : Rsc w mean mg mb news pl n0 (k + 1) (.ref x) v
theorem res_loop {w : World} {mean : ExcName → Option Value} {mg mb : Str → Option Value} {dp un : Nat} {gd : Option (List Code)} {cn : Str} {a : Addr} {ccd : Value} {outer : List Env} {A₀ : Around} {base g : Heap} {L : Addr} {news led : Led} {Q : Flow → Shared → Prop} {E : Value → Shared → Prop} {pl : Addr} {n0 : Str} {k : Nat} {sc v : Value} {s₀ : Shared} {atv : Value}
    (R : Rsc w mean mg mb news pl n0 k sc v) (hE : PassesOwn (model Challenge.rw_pq0456_01.row.prog w) (ktrTop dp un gd cn resScope L a ccd [] outer) (envX cn resScope L a ccd []) E) (B : Below A₀ base outer g) (X : (K0 w.params).In g) (T : TT mean mg mb g) (hd : dp < 500) (hu : un < 3000) (hs : ∀ p ∈ news, p ∈ led)
    {ps : List Value} {np : Nat} {t0 : Tok} (mp : (pl, listOf ps.toArray np) ∈ news) (hp0 : ps[(0 : Int).toNat]? = some (.str n0 t0))
    (hret : ∀ r h' k m', v = .ref r → Fr g L h' m' → News g L h' led → Q (.ret (.ref r)) { s₀ with heap := h', toks := k })
    (hend : ∀ h' k m', v = .none → Fr g L h' m' → News g L h' led → m' "parts" = some (.ref pl) → m' "at" = some atv → Q .next { s₀ with heap := h', toks := k }) :
    ∀ (m : Str → Option Value) (h : Heap) (tk : Nat), Fr g L h m → News g L h led → m "scope" = some sc → m "parts" = some (.ref pl) → m "at" = some atv →
      WhlRest Challenge.rw_pq0456_01.row.prog w (ktrTop dp un gd cn resScope L a ccd [] outer) E (envX cn resScope L a ccd []) resTest resBody [] Q (k + 1) { s₀ with heap := h, toks := tk } := by
  induction R with
  | out =>
    intro m h tk F N h1 h2 h3
    refine whl_turn hE ?_
    refine te_use F N (b := false) ?_ fun k => WhlIf.no rfl (wpAny_execs_nil (hend _ _ _ rfl F N h2 h3))
    dsimp only [resTest, scMeth, nthS, hdS, tlS, fnBody, clsBody, Challenge.pw_pq0456_01]
    exact te_some_no (ev_name h1)
  | found D mx mxd =>
    intro m h tk F N h1 h2 h3
    refine whl_turn hE ?_
    refine te_use F N (b := true) ?_ fun k => WhlIf.yes rfl (res_found (n0 := n0) B F N X T hd hu hs h1 h2 D (hs _ mx) (hs _ mxd) fun h' k m' F' N' => hret _ _ _ _ rfl F' N')
    dsimp only [resTest, scMeth, nthS, hdS, tlS, fnBody, clsBody, Challenge.pw_pq0456_01]
    exact te_some_yes (ev_name h1)
  | miss D H mx mxd hpar _ ih =>
    intro m h tk F N h1 h2 h3
    refine whl_turn hE ?_
    refine te_use F N (b := true) ?_ fun k => WhlIf.yes rfl (res_miss B F N X T hd hu hs h1 h2 D H (hs _ mp) hp0 (hs _ mx) (hs _ mxd) hpar rfl fun h' k m' F' N' e1 e2 e3 => ih hret hend m' h' k F' N' e1 e2 (e3.trans h3))
    dsimp only [resTest, scMeth, nthS, hdS, tlS, fnBody, clsBody, Challenge.pw_pq0456_01]
    exact te_some_yes (ev_name h1)
noncomputable def ResIs (w : World) (mean : ExcName → Option Value) (mg mb : Str → Option Value) (news : Led) (x pl : Addr) (v : Value) : Prop :=
  ∀ (dp un : Nat) (gd : Option (List Code)) (cn : Str) (cs : Scope) (a : Addr) (ccd : Value) (cl : List (Str × Addr)) (outer : List Env) (A₀ : Around) (base h₀ : Heap) (L : Addr) (m : Str → Option Value) (led : Led) (s : Shared) (Q E : Value → Shared → Prop) (at' : Int) (ta : Tok),
    Below A₀ base outer h₀ → Fr h₀ L s.heap m → (K0 w.params).In h₀ → News h₀ L s.heap led → (∀ p ∈ news, p ∈ led) → TT mean mg mb h₀ → cs.kind = .function → dp < 400 → un < 2000 →
    (∀ h' tk', v ≠ .none → Fr h₀ L h' m → News h₀ L h' led → Q v { s with heap := h', toks := tk' }) →
    (∀ h' tk' e dx es ne t1 t2 gg, v = .none → RaisedP 52 dx base (envX cn cs L a ccd cl :: outer) e ((dx, dictOf es ne) :: led) h' → Fr h₀ L gg m → gg.UpToSlots h' → getL (Str.ofString "kind") es = some (some (.str (Str.ofString "undeclared") t1)) →
      getL (Str.ofString "at") es = some (some (.int at' t2)) → E (.ref e) { s with heap := h', toks := tk' }) →
    wpAny (model Challenge.rw_pq0456_01.row.prog w) (ktrTop dp un gd cn cs L a ccd cl outer) (call (.ref 117) [.ref x, .ref pl, .int at' ta]) Q E s

structure Stop (p : Prop) : Prop where
  go : p
theorem res_is {w : World} {mean : ExcName → Option Value} {mg mb : Str → Option Value} {news : Led} {x pl : Addr} {v : Value} {n0 : Str} {k : Nat} (R : Rsc w mean mg mb news pl n0 k (.ref x) v)
    {ps : List Value} {ys : List Str} {np : Nat} {t0 : Tok} (mp : (pl, listOf ps.toArray np) ∈ news) (hp0 : ps[(0 : Int).toNat]? = some (.str n0 t0)) (hps : StrsAre ps ys) (hw : (ys.map (·.length)).sum + ys.length ≤ 1048576) : ResIs w mean mg mb news x pl v := by
  intro dp un gd cn cs a ccd cl outer A₀ base h₀ L m led s Q E at' ta B F X N hs T hk hd hu ret rai
  revert B F X N T
  k_fill
  intro B F X N T
  have mpl := hs _ mp
  k_with "WhlRest" => refine Stop.go ?_
  k_with "exec While Compare cons nil" => (k_here; k_dflt (refine whl_start (k + 1) ?_))
  refine wpAny_call ?_
  k_dflt ktr_enter
  dsimp only [fBody, fStmt, nthS, hdS, tlS, fnBody, clsBody, Challenge.pw_pq0456_01]
  clear B F T N
  (rename Fr _ _ _ _ => F8)
  obtain ⟨m9, F9, eg0, eg1, eg2⟩ := fr_gen (fun m => m "self" = some (.ref x) ∧ m "parts" = some (.ref pl) ∧ m "at" = some (.int at' ta)) F8 ⟨rfl, rfl, rfl⟩
  clear F8
  refine toks_any (s := s) fun k9 => ?_
  k_steps
  refine ⟨?_⟩
  refine res_loop R ?hE (by assumption) (by assumption) (by assumption) ?d1 ?d2 hs mp hp0 (fun r h' k m' e F N => ?_) (fun h' k m' e F N e1 e2 => ?_) _ _ _ (by assumption) (by assumption) (by first | exact rfl | exact eg0 | exact eg1 | exact eg2) (by first | exact rfl | exact eg0 | exact eg1 | exact eg2) (by first | exact rfl | exact eg0 | exact eg1 | exact eg2)
  case hE => passes_own
  case d1 => ktr_room
  case d2 => ktr_units
  · subst e
    k_steps
    exact ret _ _ (fun x => nomatch x) (by k_asm) (by k_asm)
  · k_steps
    (rename RaisedP _ _ _ _ _ _ _ => rR9)
    (rename Heap.UpToSlots _ _ => rU9)
    exact rai _ _ _ _ _ _ _ _ _ e (raisedP_sub (n2 := (_, _) :: led) rR9 (by k_allIn) (by k_all)) (by k_asm) rU9 (by rfl) (by rfl)
section
variable {w : World} {mean : ExcName → Option Value} {mg mb : Str → Option Value} {led : Led} {g tx te ix ie pl : Addr} {n0 : Str} {v : Value}
theorem rscTop (H : TopIs w led g tx te) (hn : ("top" : Str) ≠ n0) (hv : v = .none ∨ ∃ r, v = .ref r) (D : DescIs w mean mg mb led tx pl v) : Rsc w mean mg mb led pl n0 1 (.ref tx) v := by
  have A := ans_top (mean := mean) (mg := mg) (mb := mb) H hn
  obtain ⟨h1, h2, -⟩ := H
  rcases hv with rfl | ⟨r, rfl⟩
  · exact .miss D A h1 h2 rfl .out
  · exact .found D h1 h2
theorem rscInn (H : TopIs w led g tx te) (I : InnIs w led g tx ix ie) (hn : ("top" : Str) ≠ n0) {v1 v2 : Value} (hv1 : v1 = .none ∨ ∃ r, v1 = .ref r) (hv2 : v2 = .none ∨ ∃ r, v2 = .ref r) (D1 : DescIs w mean mg mb led ix pl v1) (D2 : DescIs w mean mg mb led tx pl v2)
    (e : v = if v1 = .none then v2 else v1) : Rsc w mean mg mb led pl n0 2 (.ref ix) v := by
  have A := ans_inn (mean := mean) (mg := mg) (mb := mb) (n0 := n0) I
  have R := rscTop H hn hv2 D2
  obtain ⟨h1, h2, -⟩ := I
  rcases hv1 with rfl | ⟨r, rfl⟩
  · rw [if_pos rfl] at e
    subst e
    exact .miss D1 A h1 h2 rfl R
  · rw [if_neg (by simp)] at e
    subst e
    exact .found D1 h1 h2
end
theorem menu_shape {ps : List Str} (h : ps ∈ menu) : (∃ p, ps = [p]) ∨ ∃ p p', ps = [p, p'] := by
  simp only [menu, List.mem_cons, List.mem_nil_iff, or_false] at h
  rcases h with rfl | rfl | rfl | rfl | rfl | rfl <;> first | exact .inl ⟨_, rfl⟩ | exact .inr ⟨_, _, rfl⟩

section
variable {w : World} {mean : ExcName → Option Value} {mg mb : Str → Option Value} {led : Led} {g tx te ix ie rl sl pl x : Addr} {np nr : Nat} {n0 : Str} {t0 : Tok} {vs rts : List Value} {ps : List Str} {kvs : List (Str × Value)} {num : Value}

theorem TopIs.scope (H : TopIs w led g tx te) {oT : Obj} (ht : (te, oT) ∈ led) (hd : oT.IsDictOf (sk w) kvs) (lo : (te == sysModules) = false) : ∃ num, ScopeIs w led tx g kvs num := by
  cases H with
  | mk h1 h2 h3 => exact ⟨_, .mk h1 h2 ht hd lo⟩
theorem InnIs.scope (H : InnIs w led g tx ix ie) {oI : Obj} (ht : (ie, oI) ∈ led) (hd : oI.IsDictOf (sk w) kvs) (lo : (ie == sysModules) = false) : ∃ num, ScopeIs w led ix g kvs num := by
  cases H with
  | mk h1 h2 h3 => exact ⟨_, .mk h1 h2 ht hd lo⟩
theorem desc_away (hvs : StrsAre vs ps) (S : ScopeIs w led x g kvs num) (mp : (pl, listOf (Value.str n0 t0 :: vs).toArray np) ∈ led) (h : valueAt kvs n0 = none) : DescIs w mean mg mb led x pl .none :=
  desc_is (fun _ _ => .stop (to_scope_miss S h)) mp (.cons _ _ hvs)
theorem desc_here (hp : ps ∈ menu) (hvs : StrsAre vs ps) (D : DesignIs w led g rl sl) (mr : (rl, listOf rts.toArray nr) ∈ led) (hr : rts.length ≤ 10) (S : ScopeIs w led x g kvs num) (mp : (pl, listOf (Value.str n0 t0 :: vs).toArray np) ∈ led)
    {u rt ra : Addr} {tu ti : Tok} {j : Nat} {xs : List (List Str × Addr × Value)} (hu : valueAt kvs n0 = some (.ref u)) (mu : (u, tupO [.str (Str.ofString "routine") tu, .int (j : Int) ti]) ∈ led) (hri : rts[j]? = some (.ref rt)) (Q : QRec w led g rt ra xs) :
    ∃ v, (v = .none ∨ ∃ r, v = .ref r) ∧ DescIs w mean mg mb led x pl v ∧ Same w led v (((atKey xs ps).map (·.2)).getD .none) := by
  have go : ∀ v, (∀ u', Dsc w mean mg mb led x u' (tupO [.str (Str.ofString "routine") tu, .int (j : Int) ti]) false ps v) → DescIs w mean mg mb led x pl v := fun v d =>
    desc_is (fun _ _ => .step (to_scope_hit S hu) mu (d u)) mp (.cons _ _ hvs)
  cases Q with
  | bare R mro Ro lo hA =>
    refine ⟨.none, .inl rfl, go _ fun _ => ?_, by rw [hA _ hp]; exact .none⟩
    have z := fun (p : Str) => to_rt_none (mean := mean) (mg := mg) (mb := mb) (b := false) (p := p) (tu := tu) (ti := ti) S D mr hr hri R
    rcases menu_shape hp with ⟨p, rfl⟩ | ⟨p, p', rfl⟩
    · exact .stop (z _)
    · exact .stop (z _)
  | full R Sc mro Ro lo hA =>
    have miss := fun (p : Str) h => to_rt_miss (mean := mean) (mg := mg) (mb := mb) (b := false) (p := p) (tu := tu) (ti := ti) S D mr hr hri R Sc h
    have hit := fun (p : Str) (v : Addr) h => to_rt_hit (mean := mean) (mg := mg) (mb := mb) (b := false) (p := p) (tu := tu) (ti := ti) S D mr hr hri R Sc (v := v) h
    cases hA _ hp with
    | n1 h1 h2 => exact ⟨.none, .inl rfl, go _ fun _ => .stop (miss _ h2), by rw [h1]; exact .none⟩
    | l1 h1 h2 h3 => exact ⟨.none, .inl rfl, go _ fun _ => .step (hit _ _ h2) h3 (.done .l), by rw [h1]; exact .none⟩
    | s1 h1 h2 h3 h4 => exact ⟨_, .inr ⟨_, rfl⟩, go _ fun _ => .step (hit _ _ h3) h4 (.done (.o rfl)), by rw [h1]; exact .sig h4 h2⟩
    | b1 h1 h2 h3 h4 h5 => exact ⟨_, .inr ⟨_, rfl⟩, go _ fun _ => .step (hit _ _ h3) h4 (.done (.o rfl)), by rw [h1]; exact .blk h4 h2 h5⟩
    | n2 h1 h2 => exact ⟨.none, .inl rfl, go _ fun _ => .stop (miss _ h2), by rw [h1]; exact .none⟩
    | x2 h1 h2 h3 => exact ⟨.none, .inl rfl, go _ fun _ => .step (hit _ _ h2) h3 (.stop to_sig), by rw [h1]; exact .none⟩
    | s2 h1 h2 h3 h4 h5 h6 h7 => exact ⟨_, .inr ⟨_, rfl⟩, go _ fun _ => .step (hit _ _ h3) h4 (.step (to_scope_hit h5 h6) h7 (.done (.o rfl))), by rw [h1]; exact .sig h7 h2⟩

theorem ask_law (hp : ps ∈ menu) (hvs : StrsAre vs ps) (D : DesignIs w led g rl sl) (mr : (rl, listOf rts.toArray nr) ∈ led) (hr : rts.length ≤ 10) (H : TopIs w led g tx te) (I : InnIs w led g tx ix ie)
    {oT oI : Obj} {kT kI kB : List (Str × Value)} (mT : (te, oT) ∈ led) (hT : oT.IsDictOf (sk w) kT) (lT : (te == sysModules) = false) (mI : (ie, oI) ∈ led) (hI : oI.IsDictOf (sk w) kI) (lI : (ie == sysModules) = false)
    {j : Nat} (R : RoutAt w led g rts kT kI kB j) (mp : (pl, listOf (Value.str (nm j) t0 :: vs).toArray np) ∈ led) {start : Nat} (hst : start ≤ 1)
    {ab : Nat} {rt u tp ra : Addr} {tu ti ta : Tok} {xs : List (List Str × Addr × Value)} (hab : ab ≤ 1) (hri : rts[j]? = some (.ref rt)) (hu : valueAt (if ab = 0 then kT else kI) (nm j) = some (.ref u)) (mu : (u, tupO [.str (Str.ofString "routine") tu, .int (j : Int) ti]) ∈ led)
    (ho : valueAt (if ab = 0 then kI else kT) (nm j) = none) (Q : QRec w led g rt ra xs) :
    ∃ v fv, ResIs w mean mg mb led (if start = 0 then tx else ix) pl v ∧ DescIs w mean mg mb led (if start = 0 then tx else ix) pl fv ∧ (v = .none ∨ ∃ r, v = .ref r) ∧ (fv = .none ∨ ∃ r, fv = .ref r) ∧
      Same w led v (if ab ≤ start then ((atKey xs ps).map (·.2)).getD .none else .none) ∧ Same w led fv (if ab = start then ((atKey xs ps).map (·.2)).getD .none else .none) := by
  obtain ⟨nT, ST⟩ := H.scope mT hT lT
  obtain ⟨nI, SI⟩ := I.scope mI hI lI
  have hs : StrsAre (Value.str (nm j) t0 :: vs) (nm j :: ps) := .cons _ _ hvs
  have hw : ((nm j :: ps).map (·.length)).sum + (nm j :: ps).length ≤ 1048576 := by
    rw [List.map_cons, nm_len, List.length_cons]
    simp only [menu, List.mem_cons, List.mem_nil_iff, or_false] at hp
    rcases hp with rfl | rfl | rfl | rfl | rfl | rfl <;> decide
  have nt := nm_top j
  rcases Nat.le_one_iff_eq_zero_or_eq_one.mp hab with rfl | rfl
  · -- the routine is the module's
    rw [if_pos rfl] at hu ho
    obtain ⟨v, hv, Dv, Sv⟩ := desc_here (mean := mean) (mg := mg) (mb := mb) hp hvs D mr hr ST mp hu mu hri Q
    have Di := desc_away (mean := mean) (mg := mg) (mb := mb) hvs SI mp ho
    rcases Nat.le_one_iff_eq_zero_or_eq_one.mp hst with rfl | rfl
    · exact ⟨v, v, by rw [if_pos rfl]; exact res_is (rscTop H nt hv Dv) mp rfl hs hw, by rw [if_pos rfl]; exact Dv, hv, hv, by rw [if_pos (Nat.le_refl _)]; exact Sv, by rw [if_pos rfl]; exact Sv⟩
    · exact ⟨v, .none, by rw [if_neg (by decide)]; exact res_is (rscInn H I nt (.inl rfl) hv Di Dv (by rw [if_pos rfl])) mp rfl hs hw, by rw [if_neg (by decide)]; exact Di, hv, .inl rfl, by rw [if_pos (by decide)]; exact Sv, by rw [if_neg (by decide)]; exact .none⟩
  · -- the routine is the generate's
    rw [if_neg (by decide)] at hu ho
    obtain ⟨v, hv, Dv, Sv⟩ := desc_here (mean := mean) (mg := mg) (mb := mb) hp hvs D mr hr SI mp hu mu hri Q
    have Dt := desc_away (mean := mean) (mg := mg) (mb := mb) hvs ST mp ho
    rcases Nat.le_one_iff_eq_zero_or_eq_one.mp hst with rfl | rfl
    · exact ⟨.none, .none, by rw [if_pos rfl]; exact res_is (rscTop H nt (.inl rfl) Dt) mp rfl hs hw, by rw [if_pos rfl]; exact Dt, .inl rfl, .inl rfl, by rw [if_neg (by decide)]; exact .none, by rw [if_neg (by decide)]; exact .none⟩
    · refine ⟨v, v, ?_, by rw [if_neg (by decide)]; exact Dv, hv, hv, by rw [if_pos (Nat.le_refl _)]; exact Sv, by rw [if_pos rfl]; exact Sv⟩
      rw [if_neg (by decide)]
      exact res_is (rscInn H I nt hv (.inl rfl) Dv Dt (by rcases hv with rfl | ⟨r, rfl⟩ <;> simp)) mp rfl hs hw
end
def AskOK (w : World) (mean : ExcName → Option Value) (mg mb : Str → Option Value) (led : Led) (x : Addr) (n0 : Str) (vs : List Value) (due due2 : Value) : Prop :=
  ∀ led' pl np t0, (∀ p ∈ led, p ∈ led') → (pl, listOf (Value.str n0 t0 :: vs).toArray np) ∈ led' →
    ∃ v fv, ResIs w mean mg mb led' x pl v ∧ DescIs w mean mg mb led' x pl fv ∧ (v = .none ∨ ∃ r, v = .ref r) ∧ (fv = .none ∨ ∃ r, fv = .ref r) ∧ Same w led' v due ∧ Same w led' fv due2

section
variable {w : World} {mean : ExcName → Option Value} {mg mb : Str → Option Value} {dp un : Nat} {gd : Option (List Code)} {cn : Str} {cs : Scope} {a : Addr} {ccd : Value} {cl : List (Str × Addr)} {outer : List Env} {A₀ : Around} {base h₀ : Heap} {L x pl : Addr} {m : Str → Option Value} {led0 led : Led} {s : Shared} {Q E : Value → Shared → Prop} {n0 : Str} {vs : List Value} {due due2 : Value} {np : Nat} {t0 ta : Tok} {at' : Int}
theorem AskOK.desc (H : AskOK w mean mg mb led0 x n0 vs due due2) (B : Below A₀ base outer h₀) (F : Fr h₀ L s.heap m) (X : (K0 w.params).In h₀) (N : News h₀ L s.heap led) (hs : ∀ p ∈ led0, p ∈ led) (hm : (pl, listOf (Value.str n0 t0 :: vs).toArray np) ∈ led) (T : TT mean mg mb h₀) (hk : cs.kind = .function) (hd : dp < 600) (hu : un < 4000)
    (ret : ∀ fv h' tk', Same w led fv due2 → Fr h₀ L h' m → News h₀ L h' led → Q fv { s with heap := h', toks := tk' }) :
    wpAny (model Challenge.rw_pq0456_01.row.prog w) (ktrTop dp un gd cn cs L a ccd cl outer) (call (.ref 110) [.ref x, .ref pl]) Q E s := by
  obtain ⟨v, fv, hR, hD, hv, hf, S1, S2⟩ := H led pl np t0 hs hm
  exact hD.use B F X N (fun _ h => h) T hk hd hu fun h' tk' F' N' => ret fv h' tk' S2 F' N'
theorem AskOK.res (H : AskOK w mean mg mb led0 x n0 vs due due2) (B : Below A₀ base outer h₀) (F : Fr h₀ L s.heap m) (X : (K0 w.params).In h₀) (N : News h₀ L s.heap led) (hs : ∀ p ∈ led0, p ∈ led) (hm : (pl, listOf (Value.str n0 t0 :: vs).toArray np) ∈ led) (T : TT mean mg mb h₀) (hk : cs.kind = .function) (hd : dp < 400) (hu : un < 2000)
    (ret : ∀ v h' tk', Same w led v due → Fr h₀ L h' m → News h₀ L h' led → Q v { s with heap := h', toks := tk' })
    (rai : ∀ h' tk' e dx es ne t1 t2 gg, Same w led .none due → RaisedP 52 dx base (envX cn cs L a ccd cl :: outer) e ((dx, dictOf es ne) :: led) h' → Fr h₀ L gg m → gg.UpToSlots h' → getL (Str.ofString "kind") es = some (some (.str (Str.ofString "undeclared") t1)) →
      getL (Str.ofString "at") es = some (some (.int at' t2)) → E (.ref e) { s with heap := h', toks := tk' }) :
    wpAny (model Challenge.rw_pq0456_01.row.prog w) (ktrTop dp un gd cn cs L a ccd cl outer) (call (.ref 117) [.ref x, .ref pl, .int at' ta]) Q E s := by
  obtain ⟨v, fv, hR, hD, hv, hf, S1, S2⟩ := H led pl np t0 hs hm
  refine hR _ _ _ _ _ _ _ _ _ _ _ _ _ _ _ _ _ _ _ _ B F X N (fun _ h => h) T hk hd hu (fun h' tk' _ F' N' => ret v h' tk' S1 F' N') fun h' tk' e dx es ne t1 t2 gg hn => rai h' tk' e dx es ne t1 t2 gg (hn ▸ S1)
end

section
variable {prog : Program} {w : World} {A : Around} {E : Value → Shared → Prop} {s : Shared} {env : Env} {h₀ : Heap} {target : PySem.Expr} {body : List Stmt} {Q : Flow → Shared → Prop} {news : Led}
theorem iter_each {l : Addr} {vs : List Value} {n : Nat} {m₀ : Str → Option Value} (I : (Str → Option Value) → Prop) (hh : A.handled = none) (F : Fr h₀ env.locals s.heap m₀) (N : News h₀ env.locals s.heap news) (hp : (l, listOf vs.toArray n) ∈ news) (hI : I m₀)
    (turn : ∀ v m₁ own h tk, v ∈ vs → I m₁ → Fr h₀ env.locals h m₁ → News h₀ env.locals h (own ++ news) →
      wpAny (model prog w) A (assign target env v) (fun _ s₃ => wpAny (model prog w) A (execs body env) (LPost h₀ env.locals (own ++ news) I Q s) E s₃) E { s with heap := h, toks := tk })
    (done : ∀ m₁ h tk, I m₁ → Fr h₀ env.locals h m₁ → News h₀ env.locals h news → Q .next { s with heap := h, toks := tk }) :
    wpAny (model prog w) A (pyIter (.ref l)) (fun it s₂ => TurnsAt prog w A h₀ env target body Q E it s₂) E s := by
  have hls : s.heap.IsList l vs.toArray := News.isList N hp
  have hlt : l < s.heap.objs.size := Heap.lt_size (N _ hp).1
  have hne : l ≠ s.heap.objs.size := Nat.ne_of_lt hlt
  refine wpAny_pyIter_list hls ?_
  have W := Walks.list (prog := prog) (w := w) hh s.heap.objs.size l hne vs.toArray
  have hlen : vs.toArray.size = vs.length := by simp
  rw [hlen] at W
  let J' : Nat → (Str → Option Value) → Led → Prop := fun i m₁ news₁ => news₁ = news ∧ I m₁
  refine ⟨_, _, _, vs.length, _, _, _, m₀, news, J', rfl, KTurns.ofWalks W (fun i v s Q E st q => letGo_listiter st.1 q), ?_, ?_, ?_, ⟨⟨_, Heap.get?_push_size _ rfl, rfl, rfl⟩, hls.at fun o e => Heap.get?_push_of_some _ e⟩, F.push _, (fun p hp => ⟨Heap.get?_push_of_some _ (N p hp).1, (N p hp).2⟩), ⟨rfl, hI⟩, ?_, ?_⟩
  · intro hm
    rcases List.mem_cons.mp hm with e | hm
    · exact absurd F.ns.lt (e ▸ Nat.lt_irrefl _)
    · exact absurd (List.mem_singleton.mp hm) (Ne.symm (N _ hp).2.1)
  · intro b hb
    rw [List.mem_singleton.mp hb]
    exact next_is_new F
  · intro p hp hI
    exact absurd (Heap.lt_size (N p hp).1) ((List.mem_singleton.mp hI) ▸ Nat.lt_irrefl _)
  · rintro i v m₁ news₁ hh' tk' own hin hP ⟨rfl, hJ⟩ hoff _ _ _ _ F₁ N₁
    have hv : vs[i]? = some v := by simpa using hP
    refine wpAny_mono (turn v m₁ own hh' tk' (List.mem_of_getElem? hv) hJ F₁ N₁) (fun _ s₃ z => wpAny_mono z (fun f s₂ p => ?_) fun _ _ e => e) fun _ _ e => e
    have fin : LEnd h₀ env.locals (own ++ news₁) I s s₂ → LoopStepU h₀ env.locals [s.heap.objs.size] own (J' (i + 1)) { s with heap := hh', toks := tk' } .next s₂ := by
      rintro ⟨h', tk, m', e, F', N', hr⟩
      exact ⟨rfl, h', tk, m', news₁, e, F', N', hoff, rfl, hr⟩
    cases f with
    | ret v => exact .ret p
    | brk => exact .brk p
    | next => exact .next (fin p)
    | cont => exact .cont (fin p)
  · rintro h' tk m' news' F' N' _ ⟨rfl, hJ⟩
    exact done m' h' tk hJ F' N'
end

section
variable {prog : Program} {w : World} {A : Around} {E : Value → Shared → Prop} {s : Shared} {h₀ : Heap} {L a b : Addr} {m : Str → Option Value} {led : Led} {Q : Value → Shared → Prop}
theorem tup_list {vs : List Value} (F : Fr h₀ L s.heap m) (N : News h₀ L s.heap led) (hb : (b, tupO vs) ∈ led) (hz : vs.length ≤ 1000)
    (h : ∀ D c h', Fr h₀ L h' m → News h₀ L h' ((D, listOf vs.toArray c) :: led) → (∀ q ∈ led, q.1 < D) → Q (.ref D) { s with heap := h' }) : wpAny (model prog w) A (call (.type "list") [.ref b]) Q E s :=
  kup_listOfT F N hb (by simp) h (by rw [sizeLine_eq]; simpa using Nat.le_trans hz (by decide))
theorem int_eq_yes {i j : Int} {t u : Tok} (h : i = j) (q : Q (.bool true) s) : wpAny (model prog w) A (compareOp .Eq (.int i t) (.int j u)) Q E s := by
  refine eq_int ?_
  rw [show (i == j) = true from by simpa using h]; exact q
theorem int_eq_no {i j : Int} {t u : Tok} (h : i ≠ j) (q : Q (.bool false) s) : wpAny (model prog w) A (compareOp .Eq (.int i t) (.int j u)) Q E s := by
  refine eq_int ?_
  rw [show (i == j) = false from by simpa using h]; exact q
theorem list_cat {xs ys : List Value} {n1 n2 : Nat} (F : Fr h₀ L s.heap m) (N : News h₀ L s.heap led) (ha : (a, listOf xs.toArray n1) ∈ led) (hb : (b, listOf ys.toArray n2) ∈ led) (hz : xs.length + ys.length ≤ 1000)
    (h : ∀ D h', Fr h₀ L h' m → News h₀ L h' ((D, listOf (xs ++ ys).toArray 0) :: led) → (∀ q ∈ led, q.1 < D) → Q (.ref D) { s with heap := h' }) : wpAny (model prog w) A (binaryOp .Add (.ref a) (.ref b)) Q E s :=
  add_arrays (its := xs.toArray) (its2 := ys.toArray) F N (News.isList N ha) (News.isList N hb) (fun h' F' N' => h _ h' F' (by simpa using N') fun p hp => Heap.lt_size (N p hp).1) (by rw [List.size_toArray, List.size_toArray, sizeLine_eq]; omega)
end
section
variable {prog : Program} {w : World} {A : Around} {E : Value → Shared → Prop} {s : Shared} {h₀ : Heap} {L a b D : Addr} {m : Str → Option Value} {led led' : Led} {value slice : PySem.Expr}
theorem ent_set {kvs : List (Str × Value)} {oe : Obj} {x : Str} {t : Tok} {v : Value} {g : Obj → Led} {Q : Unit → Shared → Prop} (F : Fr h₀ L s.heap m) (N : News h₀ L s.heap led) (U : UpdF a oe led g) (hd : oe.IsDictOf (PySem.strKind prog w) kvs) (hsz : kvs.length ≤ 1000)
    (h : ∀ h' o', Fr h₀ L h' m → News h₀ L h' (g o') → o'.IsDictOf (PySem.strKind prog w) (stored kvs x v) → Q () { s with heap := h', toks := s.toks + 1 }) : wpAny (model prog w) A (setItem (.ref a) (.str x t) v) Q E s :=
  kda_set F N U hd (strKind_is _ _ _ _) (by rw [sizeLine_eq]; omega) h
theorem list_push {l : List Value} {n : Nat} {x : Value} {Q : Value → Shared → Prop} (F : Fr h₀ L s.heap m) (N : News h₀ L s.heap led) (U : Upd D (listOf l.toArray n) (listOf (l ++ [x]).toArray (n + 1)) led led') (hz : l.length ≤ 1000)
    (h : ∀ h', Fr h₀ L h' m → News h₀ L h' led' → Q .none { s with heap := h' }) : wpAny (model prog w) A (call (.builtin "list.append") [.ref D, x]) Q E s :=
  append_K (its := l.toArray) F N (by rw [List.push_toArray]; exact U) h (by rw [List.size_toArray, sizeLine_eq]; omega)
theorem int_ne_yes {i j : Int} {t u : Tok} {Q : Value → Shared → Prop} (h : i ≠ j) (q : Q (.bool true) s) : wpAny (model prog w) A (compareOp .NotEq (.int i t) (.int j u)) Q E s := by
  refine ne_int ?_
  rw [show (i != j) = true from by simpa using h]; exact q
theorem int_ne_no {i j : Int} {t u : Tok} {Q : Value → Shared → Prop} (h : i = j) (q : Q (.bool false) s) : wpAny (model prog w) A (compareOp .NotEq (.int i t) (.int j u)) Q E s := by
  refine ne_int ?_
  rw [show (i != j) = false from by simpa using h]; exact q
theorem int_ne_split {i j : Int} {t u : Tok} {Q : Value → Shared → Prop} (q : i ≠ j → Q (.bool true) s) (q2 : i = j → Q (.bool false) s) : wpAny (model prog w) A (compareOp .NotEq (.int i t) (.int j u)) Q E s := by
  by_cases h : i = j
  · exact int_ne_no h (q2 h)
  · exact int_ne_yes h (q h)
theorem int_eq_split {i j : Int} {t u : Tok} {Q : Value → Shared → Prop} (q : i = j → Q (.bool true) s) (q2 : i ≠ j → Q (.bool false) s) : wpAny (model prog w) A (compareOp .Eq (.int i t) (.int j u)) Q E s := by
  by_cases h : i = j
  · exact int_eq_yes h (q h)
  · exact int_eq_no h (q2 h)
theorem int_gt_yes {i j : Int} {t u : Tok} {Q : Value → Shared → Prop} (h : i > j) (q : Q (.bool true) s) : wpAny (model prog w) A (compareOp .Gt (.int i t) (.int j u)) Q E s := by
  refine gt_int ?_
  rw [show decide (i > j) = true from decide_eq_true h]; exact q
theorem int_gt_no {i j : Int} {t u : Tok} {Q : Value → Shared → Prop} (h : ¬ i > j) (q : Q (.bool false) s) : wpAny (model prog w) A (compareOp .Gt (.int i t) (.int j u)) Q E s := by
  refine gt_int ?_
  rw [show decide (i > j) = false from decide_eq_false h]; exact q
theorem int_gt_split {i j : Int} {t u : Tok} {Q : Value → Shared → Prop} (q : i > j → Q (.bool true) s) (q2 : ¬ i > j → Q (.bool false) s) : wpAny (model prog w) A (compareOp .Gt (.int i t) (.int j u)) Q E s := by
  by_cases h : i > j
  · exact int_gt_yes h (q h)
  · exact int_gt_no h (q2 h)
theorem int_lt_split {i j : Int} {t u : Tok} {Q : Value → Shared → Prop} (q : i < j → Q (.bool true) s) (q2 : ¬ i < j → Q (.bool false) s) : wpAny (model prog w) A (compareOp .Lt (.int i t) (.int j u)) Q E s := by
  refine lt_int ?_
  by_cases h : i < j
  · rw [show decide (i < j) = true from decide_eq_true h]; exact q h
  · rw [show decide (i < j) = false from decide_eq_false h]; exact q2 h
theorem RowsO.nil {w : World} {o : Obj} (h : o.IsDictOf (sk w) []) : RowsO w [] o [] := by
  obtain ⟨es, ep, h1, h2, h3, h4, h5⟩ := h
  refine .mk h1 h2 ?_ List.nodup_nil fun x hx => nomatch hx
  have := Pairs.length h4
  exact List.eq_nil_of_length_eq_zero (by simpa using this)
theorem atKey_none_not {xs : List (List Str × Addr × Value)} {k : List Str} (h : atKey xs k = none) : k ∉ xs.map (·.1) := by
  intro hm
  obtain ⟨x, hx, rfl⟩ := List.mem_map.mp hm
  unfold atKey at h
  rw [Option.map_eq_none_iff, List.find?_eq_none] at h
  exact h x hx (by simp)
theorem rows_set {w : World} {ra tl : Addr} {ro : Obj} {ledR : Led} {xs : List (List Str × Addr × Value)} {vs : List Value} {k : List Str} {v : Value} {g : Obj → Led} {Q : Unit → Shared → Prop} (hroom : A.in1.units < cLine) (F : Fr h₀ L s.heap m) (N : News h₀ L s.heap led) (U : UpdF ra ro led g) (R : RowsO w ledR ro xs) (hR : ∀ p ∈ ledR, p ∈ led)
    (ht : (tl, tupO vs) ∈ led) (hv : PySem.ItemsAre (sk w) k vs) (hk : atKey xs k = none) (hz : xs.length ≤ 1000)
    (h : ∀ h' o', Fr h₀ L h' m → News h₀ L h' (g o') → RowsO w ((tl, tupO vs) :: ledR) o' (xs ++ [(k, tl, v)]) → Q () { s with heap := h', toks := s.toks + (k.length + 1) }) :
    wpAny (model Challenge.rw_pq0456_01.row.prog w) A (setItem (.ref ra) (.ref tl) v) Q E s := by
  obtain ⟨pre, post, rfl, hg, a, b⟩ := U.split
  have hmm := N (ra, ro) (List.mem_append_right _ (.head _))
  have R' := (R.mono hR).at N (List.mem_append_right _ (.head _))
  refine wpAny_setItem_heap (knd := PySem.tupleKind (sk w)) hroom ⟨_, vs.toArray, _, N.get ht, rfl, rfl, by simpa using hv⟩ R' (fun h' hd hs => ?_) (by rw [sizeLine_eq]; omega)
  rw [storedH_new hk] at hd
  obtain ⟨o', es, ep, ho', h1, h2, h3, h4, h5⟩ := hd
  refine h h' o' (F.change hs hmm.2.1 hmm.2.2) (hg o' ▸ N.setIn a b hs ho') (.mk h1 h2 h3 h5 fun x hx => ?_)
  rcases List.mem_append.mp hx with hx | hx
  · obtain ⟨_, _, _, _, q⟩ := R
    obtain ⟨vs0, q1, q2⟩ := q x hx
    exact ⟨vs0, .tail _ q1, q2⟩
  · rw [List.mem_singleton.mp hx]
    exact ⟨vs, .head _, hv⟩
end
structure On (s₀ s : Shared) : Prop where
  gens : s.gens = s₀.gens
  drawn : s.drawn = s₀.drawn
  os : s.os = s₀.os
theorem On.refl (s : Shared) : On s s := ⟨rfl, rfl, rfl⟩
theorem On.step {s₀ s1 s2 : Shared} (o : On s₀ s1) (e1 : s2.gens = s1.gens) (e2 : s2.drawn = s1.drawn) (e3 : s2.os = s1.os) : On s₀ s2 := ⟨e1.trans o.gens, e2.trans o.drawn, e3.trans o.os⟩
theorem On.eq {s₀ s : Shared} (o : On s₀ s) : s = { s₀ with heap := s.heap, toks := s.toks } := by
  obtain ⟨a, b, c⟩ := o
  cases s
  dsimp only at a b c ⊢
  rw [a, b, c]
theorem On.out {s₀ s : Shared} (P : Shared → Prop) (o : On s₀ s) (h : P { s₀ with heap := s.heap, toks := s.toks }) : P s := Eq.mpr (congrArg P o.eq) h
theorem anew {M : Model} {A : Around} {α : Type} {t : Sem α} {Q : α → Shared → Prop} {E : Value → Shared → Prop} {s s₀ : Shared} {h₀ : Heap} {L : Addr} {m : Str → Option Value} {led : Led} (o : On s₀ s) (F : Fr h₀ L s.heap m) (N : News h₀ L s.heap led)
    (h : ∀ s', On s₀ s' → Fr h₀ L s'.heap m → News h₀ L s'.heap led → wpAny M A t Q E s') : wpAny M A t Q E s := h s o F N
theorem allLt_mem {d : Nat} : ∀ {led : Led}, AllLt d led → ∀ p ∈ led, p.1 < d
  | [], _, p, hp => nomatch hp
  | x :: r, h, p, hp => by
    rcases List.mem_cons.mp hp with rfl | hp
    · exact h.1
    · exact allLt_mem h.2 p hp
theorem ltm {d : Nat} {led : Led} {a : Addr} {o : Obj} (h : AllLt d led) (hm : (a, o) ∈ led) : @LT.lt Nat _ a d := allLt_mem h _ hm
theorem ltm2 {d x : Nat} {led : Led} {a : Addr} {o : Obj} (h2 : d < x) (h : AllLt d led) (hm : (a, o) ∈ led) : @LT.lt Nat _ a x := Nat.lt_trans (ltm h hm) h2
inductive KV (P : Params) : List DictEntry → List (Str × Value) → Prop
  | nil : KV P [] []
  | cons {t : Tok} {v : Value} {es : List DictEntry} {kvs : List (Str × Value)} {name : Str} : KV P es kvs → KV P (ent P name t v :: es) ((name, v) :: kvs)
noncomputable def kvPut (name : Str) (v : Value) : List (Str × Value) → List (Str × Value)
  | [] => [(name, v)]
  | p :: r => if p.1 = name then (p.1, v) :: r else p :: kvPut name v r
noncomputable def kvGet (name : Str) : List (Str × Value) → Option Value
  | [] => none
  | p :: r => if p.1 = name then some p.2 else kvGet name r
noncomputable def entsOf (P : Params) (t : Nat → Tok) : Nat → List (Str × Value) → List DictEntry
  | _, [] => []
  | i, p :: r => ent P p.1 (t i) p.2 :: entsOf P t (i + 1) r
theorem entsOf_congr {P : Params} {t u : Nat → Tok} : ∀ {i : Nat} {kvs : List (Str × Value)}, (∀ j, i ≤ j → t j = u j) → entsOf P t i kvs = entsOf P u i kvs
  | _, [], _ => rfl
  | i, p :: r, h => by
    unfold entsOf
    rw [h i (Nat.le_refl _), entsOf_congr (i := i + 1) fun j hj => h j (by omega)]
theorem KV.toks {P : Params} {es : List DictEntry} {kvs : List (Str × Value)} (H : KV P es kvs) : ∀ i, ∃ t : Nat → Tok, es = entsOf P t i kvs := by
  induction H with
  | nil => exact fun _ => ⟨fun _ => 0, rfl⟩
  | @cons t v es kvs name _ ih =>
    intro i
    obtain ⟨u, hu⟩ := ih (i + 1)
    refine ⟨fun j => if j = i then t else u j, ?_⟩
    unfold entsOf
    rw [if_pos rfl, hu]
    congr 1
    exact entsOf_congr fun j hj => by
      have : j ≠ i := by omega
      simp [this]
theorem isStr_ne {x name : Str} {t : Tok} (h : x ≠ name) : (Value.str x t).isStr name = false := by
  unfold Value.isStr
  simpa using h
theorem isStr_eq {name : Str} {t : Tok} : (Value.str name t).isStr name = true := by
  unfold Value.isStr
  simp
section
variable {P : Params} {es : List DictEntry} {kvs : List (Str × Value)} {name : Str} {v : Value} {t : Tok} (H : KV P es kvs)
include H
theorem KV.len : es.length = kvs.length := by
  induction H with
  | nil => rfl
  | cons _ ih => rw [List.length_cons, List.length_cons, ih]
theorem KV.put : KV P (putL name (PyData.keyHash P name) (.str name t) v es) (kvPut name v kvs) := by
  induction H with
  | nil => exact .cons .nil
  | @cons t2 u es kvs x H ih =>
    unfold putL kvPut
    by_cases e : x = name
    · subst e
      rw [if_pos isStr_eq, if_pos rfl]
      exact .cons H
    · rw [if_neg (by rw [isStr_ne e]; exact Bool.false_ne_true), if_neg e]
      exact .cons ih
theorem KV.any : es.any (·.key.isStr name) = (kvs.map (·.1)).any (· == name) := by
  induction H with
  | nil => rfl
  | @cons t2 u es kvs x H ih =>
    rw [List.any_cons, List.map_cons, List.any_cons, ih]
    rfl
theorem KV.any_ref : es.any (·.refKey) = false := by
  induction H with
  | nil => rfl
  | cons _ ih => rw [List.any_cons, ih]; rfl
theorem KV.get_some (name : Str) : (getL name es).isSome = true := by
  unfold getL
  cases es.find? (·.key.isStr name) with
  | some e => rfl
  | none =>
    dsimp only
    rw [H.any_ref]; rfl
theorem KV.get (hl : kvGet name kvs = some v) : getL name es = some (some v) := by
  have : ∃ e, es.find? (·.key.isStr name) = some e ∧ e.val = v := by
    induction H with
    | nil => exact nomatch hl
    | @cons t2 u es kvs x H ih =>
      unfold kvGet at hl
      by_cases e : x = name
      · subst e
        rw [if_pos rfl] at hl
        exact ⟨ent P x t2 u, by rw [List.find?_cons]; simp only [isStr_eq], Option.some.inj hl⟩
      · rw [if_neg e] at hl
        obtain ⟨z, h1, h2⟩ := ih hl
        exact ⟨z, by rw [List.find?_cons]; simp only [isStr_ne e]; exact h1, h2⟩
  obtain ⟨e, h1, h2⟩ := this
  unfold getL
  rw [h1]
  exact congrArg (fun z => some (some z)) h2
end
theorem kvPut_len {name : Str} {v : Value} : ∀ {kvs : List (Str × Value)}, (kvPut name v kvs).length ≤ kvs.length + 1
  | [] => Nat.le_refl _
  | p :: r => by
    unfold kvPut
    by_cases e : p.1 = name
    · rw [if_pos e]; exact Nat.le_succ _
    · rw [if_neg e]; exact Nat.succ_le_succ kvPut_len
section
variable {w : World} {h₀ : Heap} {L : Addr} {m : Str → Option Value} {led : List (Addr × Obj)} {env : Env} {A : Around} {E : Value → Shared → Prop} {s s₀ : Shared} {e o : PySem.Expr} {v : Value} {pos p2 : Pos} {rest : List Stmt} {name : Str} {x C dx : Addr} {es : List DictEntry} {n : Nat} {gl : List DictEntry → Nat → Led} {kvs : List (Str × Value)}
theorem set_kv {Q : Unit → Shared → Prop} (o9 : On s₀ s) (F : Fr h₀ L s.heap m) (N : News h₀ L s.heap led) (X : (K0 w.params).In h₀) (hx : (x, instObj C dx) ∈ led) (hdm : (dx, dictOf es n) ∈ led)
    (hs : findIn (K0 w.params) (.ref C) "__setattr__" = some (some (.builtin "object.__setattr__"))) (hp : plainOver (K0 w.params) C = true) (ht : takerIn (K0 w.params) C name = some none) (hh : hasDictIn (K0 w.params) C = true)
    (hK : KV w.params es kvs) (hz : kvs.length ≤ 900) (U : ∀ es' n', Upd dx (dictOf es n) (dictOf es' n') led (gl es' n'))
    (h : ∀ s' es' n', KV w.params es' (kvPut name v kvs) → On s₀ s' → Fr h₀ L s'.heap m → News h₀ L s'.heap (gl es' n') → Q () s') : wpAny (model Challenge.rw_pq0456_01.row.prog w) A (setAttr (.ref x) name v) Q E s := by
  have k := hK.put (name := name) (v := v) (t := s.toks + 1)
  refine set_dict (m := m) (news := led) F X N (InstAt.of_news N hx hdm) rfl hs hp ht hh (hK.get_some name) rfl (U _ _) (by rw [k.len]; exact Nat.le_trans kvPut_len (Nat.le_trans (Nat.succ_le_succ hz) (by decide : 901 ≤ 1000))) fun h' F' N' => ?_
  exact h _ _ _ k (o9.step rfl rfl rfl) F' N'
theorem s_attr {Q : Flow → Shared → Prop} (o9 : On s₀ s) (F : Fr h₀ L s.heap m) (N : News h₀ L s.heap led) (H : Ev w ⟨h₀, L, m, led, env⟩ e v) (Ho : Ev w ⟨h₀, L, m, led, env⟩ o (.ref x)) (X : (K0 w.params).In h₀) (hx : (x, instObj C dx) ∈ led) (hdm : (dx, dictOf es n) ∈ led)
    (hs : findIn (K0 w.params) (.ref C) "__setattr__" = some (some (.builtin "object.__setattr__"))) (hp : plainOver (K0 w.params) C = true) (ht : takerIn (K0 w.params) C name = some none) (hh : hasDictIn (K0 w.params) C = true)
    (hK : KV w.params es kvs) (hz : kvs.length ≤ 900) (U : ∀ es' n', Upd dx (dictOf es n) (dictOf es' n') led (gl es' n'))
    (h : ∀ s' es' n', KV w.params es' (kvPut name v kvs) → On s₀ s' → Fr h₀ L s'.heap m → News h₀ L s'.heap (gl es' n') → wpAny (model Challenge.rw_pq0456_01.row.prog w) A (execs rest env) Q E s')
    (hsw : swapsWith e (some (.Attribute o name p2)) pos.line env = pure false := by rfl) : wpAny (model Challenge.rw_pq0456_01.row.prog w) A (execs (.Assign [.Attribute o name p2] e pos :: rest) env) Q E s :=
  wpAny_execs_cons (plainObj_wpAny_Assign_Attribute (H.go A _ E s F N fun k => Ho.go A _ E _ F N fun k2 => set_kv (s₀ := s₀) (m := m) (led := led) (o9.step rfl rfl rfl) F N X hx hdm hs hp ht hh hK hz U h) hsw)
end
structure IC (w : World) (h₀ : Heap) (L : Addr) (m : Str → Option Value) (env : Env) (x C d : Addr) : Prop where
  X : (K0 w.params).In h₀
  big : h₀.NoLimit
  slf : ∀ led p, Ev w ⟨h₀, L, m, led, env⟩ (.Name "self" p) (.ref x)
  hs : findIn (K0 w.params) (.ref C) "__setattr__" = some (some (.builtin "object.__setattr__"))
  hp : plainOver (K0 w.params) C = true
  hh : hasDictIn (K0 w.params) C = true
inductive IS (w : World) (h₀ : Heap) (L : Addr) (m : Str → Option Value) (x C d : Addr) (s₀ : Shared) (kvs : List (Str × Value)) (led : Led) (s : Shared) : Prop
  | mk {es : List DictEntry} {n : Nat} (o : On s₀ s) (F : Fr h₀ L s.heap m) (K : KV w.params es kvs) (N : News h₀ L s.heap ((d, dictOf es n) :: led)) (hx : (x, instObj C d) ∈ led) (hd : ∀ p ∈ led, p.1 ≠ d)
section
variable {w : World} {h₀ : Heap} {L : Addr} {m : Str → Option Value} {env : Env} {x C d : Addr} {s₀ s : Shared} {kvs : List (Str × Value)} {led : Led} {A : Around} {Q : Flow → Shared → Prop} {E : Value → Shared → Prop} {e : PySem.Expr} {v : Value} {p1 p2 p3 pos : Pos} {rest : List Stmt} {name : Str} {kk : Nat}
theorem IS.hx (S : IS w h₀ L m x C d s₀ kvs led s) : (x, instObj C d) ∈ led := by
  cases S with
  | mk _ _ _ _ hx _ => exact hx
theorem is_swap {h : Heap} {a b : Addr × Obj} (N : News h₀ L h (a :: b :: led)) : News h₀ L h (b :: a :: led) := News.sub N fun p hp => by
  rcases List.mem_cons.mp hp with rfl | hp
  · exact .tail _ (.head _)
  rcases List.mem_cons.mp hp with rfl | hp
  · exact .head _
  · exact .tail _ (.tail _ hp)
theorem ini_tail {s1 : Shared} (I : IC w h₀ L m env x C d) (S : IS w h₀ L m x C d s₀ kvs led s1) (ht : takerIn (K0 w.params) C name = some none) (hz : kvs.length ≤ 900)
    (h : ∀ s', IS w h₀ L m x C d s₀ (kvPut name v kvs) led s' → wpAny (model Challenge.rw_pq0456_01.row.prog w) A (execs rest env) Q E s') :
    wpAny (model Challenge.rw_pq0456_01.row.prog w) A (eval (.Name "self" p1) env) (fun ov s2 => wpAny (model Challenge.rw_pq0456_01.row.prog w) A (setAttr ov name v) (fun _ s3 => wpAny (model Challenge.rw_pq0456_01.row.prog w) A (execs rest env) Q E s3) E s2) E s1 := by
  cases S with
  | mk o F K N hx hd =>
    refine (I.slf _ p1).go A _ E s1 F N fun k2 => ?_
    exact set_kv (s₀ := s₀) (o.step rfl rfl rfl) F N I.X (.tail _ hx) (.head _) I.hs I.hp ht I.hh K hz (fun es' n' => Upd.head hd) fun s' es' n' K' o' F' N' => h s' (.mk o' F' K' N' hx hd)
theorem ini_ev (I : IC w h₀ L m env x C d) (S : IS w h₀ L m x C d s₀ kvs led s) (H : Ev w ⟨h₀, L, m, led, env⟩ e v)
    (ht : takerIn (K0 w.params) C name = some none) (hz : kvs.length ≤ 900) (hsw : swapsWith e (some (.Attribute (.Name "self" p1) name p2)) pos.line env = pure false)
    (h : ∀ s', IS w h₀ L m x C d s₀ (kvPut name v kvs) led s' → wpAny (model Challenge.rw_pq0456_01.row.prog w) A (execs rest env) Q E s') :
    wpAny (model Challenge.rw_pq0456_01.row.prog w) A (execs (.Assign [.Attribute (.Name "self" p1) name p2] e pos :: rest) env) Q E s :=
  wpAny_execs_cons (plainObj_wpAny_Assign_Attribute (by
    cases S with
    | mk o F K N hx hd => exact H.go A _ E s F (News.sub N fun p hp => .tail _ hp) fun k => ini_tail I (.mk (o.step rfl rfl rfl) F K N hx hd) ht hz h) hsw)
theorem ini_str {c : Str} (I : IC w h₀ L m env x C d) (S : IS w h₀ L m x C d s₀ kvs led s)
    (ht : takerIn (K0 w.params) C name = some none) (hz : kvs.length ≤ 900) (hsw : swapsWith (.Constant (.str c) kk p3) (some (.Attribute (.Name "self" p1) name p2)) pos.line env = pure false)
    (h : ∀ s' t, IS w h₀ L m x C d s₀ (kvPut name (.str c t) kvs) led s' → wpAny (model Challenge.rw_pq0456_01.row.prog w) A (execs rest env) Q E s') :
    wpAny (model Challenge.rw_pq0456_01.row.prog w) A (execs (.Assign [.Attribute (.Name "self" p1) name p2] (.Constant (.str c) kk p3) pos :: rest) env) Q E s :=
  wpAny_execs_cons (plainObj_wpAny_Assign_Attribute (by
    cases S with
    | mk o F K N hx hd => exact Constant_str (ini_tail I (.mk (o.step rfl rfl rfl) F K N hx hd) ht hz fun s' => h s' _)) hsw)
theorem ini_int {i : Int} (I : IC w h₀ L m env x C d) (S : IS w h₀ L m x C d s₀ kvs led s)
    (ht : takerIn (K0 w.params) C name = some none) (hz : kvs.length ≤ 900) (hsw : swapsWith (.Constant (.int i) kk p3) (some (.Attribute (.Name "self" p1) name p2)) pos.line env = pure false)
    (h : ∀ s' t, IS w h₀ L m x C d s₀ (kvPut name (.int i t) kvs) led s' → wpAny (model Challenge.rw_pq0456_01.row.prog w) A (execs rest env) Q E s') :
    wpAny (model Challenge.rw_pq0456_01.row.prog w) A (execs (.Assign [.Attribute (.Name "self" p1) name p2] (.Constant (.int i) kk p3) pos :: rest) env) Q E s :=
  wpAny_execs_cons (plainObj_wpAny_Assign_Attribute (by
    cases S with
    | mk o F K N hx hd => exact wpAny_Constant_int (ini_tail I (.mk (o.step rfl rfl rfl) F K N hx hd) ht hz fun s' => h s' _)) hsw)
theorem ini_neg {i : Int} {p4 : Pos} (I : IC w h₀ L m env x C d) (S : IS w h₀ L m x C d s₀ kvs led s)
    (ht : takerIn (K0 w.params) C name = some none) (hz : kvs.length ≤ 900) (hsw : swapsWith (.UnaryOp .USub (.Constant (.int i) kk p3) p4) (some (.Attribute (.Name "self" p1) name p2)) pos.line env = pure false)
    (h : ∀ s' v, IS w h₀ L m x C d s₀ (kvPut name v kvs) led s' → wpAny (model Challenge.rw_pq0456_01.row.prog w) A (execs rest env) Q E s') :
    wpAny (model Challenge.rw_pq0456_01.row.prog w) A (execs (.Assign [.Attribute (.Name "self" p1) name p2] (.UnaryOp .USub (.Constant (.int i) kk p3) p4) pos :: rest) env) Q E s :=
  wpAny_execs_cons (plainObj_wpAny_Assign_Attribute (by
    cases S with
    | mk o F K N hx hd => exact UnaryOp_ (wpAny_Constant_int (neg_int (ini_tail I (.mk (o.step rfl rfl rfl) F K N hx hd) ht hz fun s' => h s' _)))) hsw)
theorem ini_list (I : IC w h₀ L m env x C d) (S : IS w h₀ L m x C d s₀ kvs led s)
    (ht : takerIn (K0 w.params) C name = some none) (hz : kvs.length ≤ 900) (hsw : swapsWith (.List [] p3) (some (.Attribute (.Name "self" p1) name p2)) pos.line env = pure false)
    (h : ∀ s' l, (∀ p ∈ led, @LT.lt Nat _ p.1 l) → IS w h₀ L m x C d s₀ (kvPut name (.ref l) kvs) ((l, listOf ([] : List Value).toArray 0) :: led) s' → wpAny (model Challenge.rw_pq0456_01.row.prog w) A (execs rest env) Q E s') :
    wpAny (model Challenge.rw_pq0456_01.row.prog w) A (execs (.Assign [.Attribute (.Name "self" p1) name p2] (.List [] p3) pos :: rest) env) Q E s :=
  wpAny_execs_cons (plainObj_wpAny_Assign_Attribute (by
    cases S with
    | mk o F K N hx hd =>
      refine List_ (spliced_none ?_)
      refine newList_K F N (fun l h' F' N' lt => ?_) (by size_fits)
      refine ini_tail I (.mk (o.step rfl rfl rfl) F' K (is_swap N') (.tail _ hx) fun p hp => ?_) ht hz fun s' => h s' l fun p hp => lt p (.tail _ hp)
      rcases List.mem_cons.mp hp with rfl | hp
      · exact Nat.ne_of_gt (lt (d, _) (.head _))
      · exact hd p hp) hsw)
theorem ini_dict (I : IC w h₀ L m env x C d) (S : IS w h₀ L m x C d s₀ kvs led s)
    (ht : takerIn (K0 w.params) C name = some none) (hz : kvs.length ≤ 900) (hsw : swapsWith (.Dict [] [] p3) (some (.Attribute (.Name "self" p1) name p2)) pos.line env = pure false)
    (h : ∀ s' l o, (∀ p ∈ led, @LT.lt Nat _ p.1 l) → (l == sysModules) = false → o.IsDictOf (PySem.strKind Challenge.rw_pq0456_01.row.prog w) [] → IS w h₀ L m x C d s₀ (kvPut name (.ref l) kvs) ((l, o) :: led) s' → wpAny (model Challenge.rw_pq0456_01.row.prog w) A (execs rest env) Q E s') :
    wpAny (model Challenge.rw_pq0456_01.row.prog w) A (execs (.Assign [.Attribute (.Name "self" p1) name p2] (.Dict [] [] p3) pos :: rest) env) Q E s :=
  wpAny_execs_cons (plainObj_wpAny_Assign_Attribute (by
    cases S with
    | mk o F K N hx hd =>
      refine newDict_K F N I.big (fun l h' ob F' N' lt lo hdd _ _ _ => ?_)
      refine ini_tail I (.mk (o.step rfl rfl rfl) F' K (is_swap N') (.tail _ hx) fun p hp => ?_) ht hz fun s' => h s' l ob (fun p hp => lt p (.tail _ hp)) lo hdd
      rcases List.mem_cons.mp hp with rfl | hp
      · exact Nat.ne_of_gt (lt (d, _) (.head _))
      · exact hd p hp) hsw)
theorem IS.drop {p : Addr × Obj} (S : IS w h₀ L m x C d s₀ kvs (p :: led) s) (hx : (x, instObj C d) ∈ led) : IS w h₀ L m x C d s₀ kvs led s := by
  cases S with
  | mk o F K N _ hd => exact .mk o F K (News.sub N fun q hq => by
      rcases List.mem_cons.mp hq with rfl | hq
      · exact .head _
      · exact .tail _ (.tail _ hq)) hx fun q hq => hd q (.tail _ hq)
theorem is_rot {h : Heap} {a b c : Addr × Obj} (N : News h₀ L h (c :: a :: b :: led)) : News h₀ L h (a :: b :: c :: led) := News.sub N fun p hp => by
  rcases List.mem_cons.mp hp with rfl | hp
  · exact .tail _ (.head _)
  rcases List.mem_cons.mp hp with rfl | hp
  · exact .tail _ (.tail _ (.head _))
  rcases List.mem_cons.mp hp with rfl | hp
  · exact .head _
  · exact .tail _ (.tail _ (.tail _ hp))
theorem is_rot3 {h : Heap} {a b c y : Addr × Obj} (N : News h₀ L h (c :: a :: b :: y :: led)) : News h₀ L h (a :: b :: y :: c :: led) := News.sub N fun p hp => by
  rcases List.mem_cons.mp hp with rfl | hp
  · exact .tail _ (.head _)
  rcases List.mem_cons.mp hp with rfl | hp
  · exact .tail _ (.tail _ (.head _))
  rcases List.mem_cons.mp hp with rfl | hp
  · exact .tail _ (.tail _ (.tail _ (.head _)))
  rcases List.mem_cons.mp hp with rfl | hp
  · exact .head _
  · exact .tail _ (.tail _ (.tail _ (.tail _ hp)))
theorem ds_perm {h : Heap} {a b c y : Addr × Obj} (N : News h₀ L h (c :: a :: b :: led)) (hy : y ∈ led) : News h₀ L h (a :: b :: y :: c :: led) := News.sub N fun p hp => by
  rcases List.mem_cons.mp hp with rfl | hp
  · exact .tail _ (.head _)
  rcases List.mem_cons.mp hp with rfl | hp
  · exact .tail _ (.tail _ (.head _))
  rcases List.mem_cons.mp hp with rfl | hp
  · exact .tail _ (.tail _ (.tail _ hy))
  rcases List.mem_cons.mp hp with rfl | hp
  · exact .head _
  · exact .tail _ (.tail _ (.tail _ hp))
end
theorem upd_mem {a : Addr} {o o' : Obj} {led led' : Led} (U : Upd a o o' led led') : (a, o') ∈ led' := by
  obtain ⟨pre, post, rfl, rfl, -, -⟩ := U.split
  exact List.mem_append_right _ (.head _)
theorem upd_lt {a : Addr} {o o' : Obj} {led led' : Led} {d : Nat} (U : Upd a o o' led led') (h : AllLt d led) : AllLt d led' := by
  induction U with
  | head _ => exact h
  | tail _ _ ih => exact ⟨h.1, ih h.2⟩
theorem mem_upd {a b : Addr} {o o' ob : Obj} {led led' : Led} (U : Upd a o o' led led') (h : (b, ob) ∈ led) (hne : ob ≠ o) : (b, ob) ∈ led' := by
  obtain ⟨pre, post, rfl, rfl, -, -⟩ := U.split
  rcases List.mem_append.mp h with h | h
  · exact List.mem_append_left _ h
  · rcases List.mem_cons.mp h with h | h
    · exact absurd (Prod.mk.inj h).2 hne
    · exact List.mem_append_right _ (.tail _ h)
theorem lines_k : True := by
  k_with_none
  k_with "G val" => first | exact rfl | assumption
  k_with "G isb" => first | exact isSome_some (by assumption) | exact isSome_none (by assumption) | exact isSome_none rfl | exact isSome_some rfl
  k_with "Ev Name" => (fail_if_success plain_pass); k_dflt (exact ev_name (by walk_at "G val"))
  k_with "Ev Constant" => (fail_if_success plain_pass); k_dflt (first | exact ev_none | exact ev_bool)
  k_with "Ev Attribute" => (fail_if_success plain_pass); k_dflt (exact ev_attr (by walk1) (by k_asm) (by k_mem) (by k_mem) (by k_is) (by k_is) (by k_is) (by k_is) (by walk_at "G get") (by first | assumption | k_handed) (by with_unfolding_all rfl))
  k_with "Ev Subscript" => (fail_if_success plain_pass); k_dflt (first
    | exact ev_item_tup (by walk1) (by k_mem) (by decide) (by decide) (by rfl) (by rfl)
    | exact ev_item_lit (by walk1) (by k_mem) (by decide) (by decide) (by first | rfl | assumption)
    | exact ev_item_dict (by walk1) (by walk1) (by k_mem) (by assumption) (by assumption) (by with_unfolding_all rfl)
    | exact ev_item_list (by walk1) (by walk1) (by k_mem) (by omega) (by omega) (by assumption) (by with_unfolding_all rfl))
  k_with "Tw BoolOp" => (fail_if_success plain_pass); k_dflt (first
    | exact tw_and_nil
    | exact tw_or_nil
    | exact tw_and (by walk1) (by walk1)
    | exact tw_or (by walk1) (by walk1))
  k_with "AndK true" => (fail_if_success plain_pass); k_dflt (exact AndK.yes (by walk1))
  k_with "AndK false" => (fail_if_success plain_pass); exact AndK.no
  k_with "OrK false" => (fail_if_success plain_pass); k_dflt (exact OrK.no (by walk1))
  k_with "OrK true" => (fail_if_success plain_pass); exact OrK.yes
  k_with "G eqs" => first | exact (rfl : (_ : Bool) = true) | exact (rfl : (_ : Bool) = false) | assumption
  k_with "Te Compare" => (fail_if_success plain_pass); k_dflt (first
    | exact te_eq_str (by walk1) (by walk_at "G eqs")
    | exact te_none_yes (by walk1)
    | exact te_none_no (by walk1)
    | exact te_some_yes (by walk1)
    | exact te_some_no (by walk1)
    | exact te_in_yes (by walk1) (by walk1) (by k_mem) (by assumption) (by assumption) (by walk_at "G val") (by with_unfolding_all rfl)
    | exact te_in_no (by walk1) (by walk1) (by k_mem) (by assumption) (by assumption) (by walk_at "G val") (by with_unfolding_all rfl)
    | exact te_notin_yes (by walk1) (by walk1) (by k_mem) (by assumption) (by assumption) (by walk_at "G val") (by with_unfolding_all rfl)
    | exact te_notin_no (by walk1) (by walk1) (by k_mem) (by assumption) (by assumption) (by walk_at "G val") (by with_unfolding_all rfl))
  k_with "Te BoolOp" => (fail_if_success plain_pass); k_dflt (exact te_tw (by walk1))
  k_with "Te Name" => (fail_if_success plain_pass); k_dflt (exact te_bool (by walk1) (by with_unfolding_all rfl))
  k_with "eval Name" => (fail_if_success plain_pass); k_dflt (refine ev_use (by k_asm) (by k_asm) (by walk1) (fun k' => ?_))
  k_with "eval Attribute" => (fail_if_success plain_pass); k_dflt (refine ev_use (by k_asm) (by k_asm) (by walk1) (fun k' => ?_))
  k_with "eval Attribute Name" => (fail_if_success plain_pass); k_dflt (refine ev_use (by k_asm) (by k_asm) (by walk1) (fun k' => ?_))
  k_with "isTrue Compare" => (fail_if_success plain_pass); k_dflt (refine te_use (by k_asm) (by k_asm) (by walk1) (fun k' => ?_))
  k_with "G on" => exact On.step (by with_reducible assumption) (by rfl) (by rfl) (by rfl)
  k_with "execs cons" => (fail_if_success plain_pass); (k_dflt (refine anew (by walk_at "G on") (by k_asm) (by k_asm) (fun s9 o9 F9 N9 => ?_))); (try k_sweep); k_dflt (first
    | ((with_reducible show wpAny _ _ (execs (Stmt.Assign [PySem.Expr.Attribute _ _ _] _ _ :: _) _) _ _ _); (refine s_attr o9 F9 N9 (by walk1) (by walk1) (by assumption) (by k_mem) (by k_mem) (by k_is) (by k_is) (by k_is) (by k_is) (by walk_at "G keys") (by exact Nat.le_of_ble_eq_true rfl) (by intro es9 n9; walk_at "G updA") (fun s9 es9 n9 K9 o9 F9 N9 => ?_)); (try k_sweep))
    | ((with_reducible show wpAny _ _ (execs (Stmt.Assign [PySem.Expr.Name _ _] _ _ :: _) _) _ _ _); (refine s_assign F9 N9 (by walk1) (fun h' k' F' N' => ?_)); (try k_sweep))
    | ((with_reducible show wpAny _ _ (execs (Stmt.If _ _ _ _ :: _) _) _ _ _); refine s_if F9 N9 (by walk1) ?_)
    | ((with_reducible show wpAny _ _ (execs (Stmt.Return (some _) _ :: _) _) _ _ _); refine s_return F9 N9 (by walk1) (fun k' => ?_))
    | refine stmt_one ?_
    | refine stmt_cut (fun K hK => ?_))
  k_with "IfK true" => (fail_if_success plain_pass); first | with_reducible refine IfK.one (fun k' => ?_) | with_reducible refine IfK.tt (fun K hK k' => ?_)
  k_with "IfK false" => (fail_if_success plain_pass); first | with_reducible refine IfK.skip (fun k' => ?_) | with_reducible refine IfK.other (fun k' => ?_) | with_reducible refine IfK.ff (fun K hK k' => ?_)
  k_with "G back" => first | with_reducible refine Sq.next (by with_reducible assumption) _ ?_ | with_reducible refine Sq.ret (by with_reducible assumption) _ _ ?_ | with_reducible refine Br.t (by with_reducible assumption) _ ?_ | with_reducible refine Br.f (by with_reducible assumption) _ ?_
  k_with "call builtin:list.append" => (k_here; (with_reducible show wpAny _ _ (call (Value.builtin _) [Value.ref _, _]) _ _ _); k_dflt (refine list_push (by k_asm) (by k_asm) (by walk_at "G upd") (by first | omega | (simp only [List.length_append, List.length_cons, List.length_nil]; omega)) ?_); intro h' F' N'; (try k_sweep))
  k_with "call builtin:len" => (k_here; (with_reducible show wpAny _ _ (call (Value.builtin "len") [Value.ref _]) _ _ _); k_dflt (refine list_len (by k_asm) (by k_mem) (by first | omega | (simp only [List.length_append, List.length_cons, List.length_nil]; omega)) ?_))
  k_with "setItem ref str" => (k_here; k_dflt (refine ent_set (by k_asm) (by k_asm) (by walk_at "G updF") (by assumption) (by first | omega | exact Nat.le_of_ble_eq_true rfl) ?_); intro h' o' F' N' hd'; (try dsimp only at N'))
  k_with "G keys" => first | with_reducible assumption | exact KV.nil
  k_with "G ne2" => first | exact Nat.ne_of_gt (by with_reducible assumption) | exact Nat.ne_of_gt (And.left (by with_reducible assumption)) | exact Nat.ne_of_gt (And.left (And.right (by with_reducible assumption)))
  k_with "G updA" => first | exact Upd.head (by k_all) | exact Upd.tail (by walk_at "G ne2") (by walk_at "G updA")
  k_with "setAttr ref" => (k_dflt (refine set_kv (by walk_at "G on") (by k_asm) (by k_asm) (by assumption) (by k_mem) (by k_mem) (by k_is) (by k_is) (by k_is) (by k_is) (by walk_at "G keys") (by exact Nat.le_of_ble_eq_true rfl) (by intro es9 n9; walk_at "G updA") (fun s9 es9 n9 K9 o9 F9 N9 => ?_)); (try k_sweep))
  k_with "G get" => first | k_get | exact KV.get (by with_reducible assumption) (by rfl)
  k_with "G mem2" => first | exact mg2 _ | exact mgd2 _ | exact msl2 _
  k_with "G all2" => exact (fun p hp => Nat.ne_of_lt (allLt_mem (l12 _) p hp))
  k_with "G ne" => first | exact Nat.ne_of_gt (ltm (by with_reducible assumption) (by with_reducible assumption)) | exact Nat.ne_of_gt (ltm2 (by with_reducible assumption) (by with_reducible assumption) (by with_reducible assumption)) | exact Nat.ne_of_gt (ltm (And.right (And.right (by with_reducible assumption))) (by with_reducible assumption))
  k_with "G upd" => first | k_upd | with_reducible assumption | exact UU _ | exact Upd.tail (by walk_at "G ne") (by walk_at "G upd")
  k_with "G updF" => first | with_reducible assumption | exact UF | k_updF
  trivial
theorem sc_declare {w : World} {mean : ExcName → Option Value} {mg mb : Str → Option Value} {dp un : Nat} {gd : Option (List Code)} {cn : Str} {cs : Scope} {a : Addr} {ccd : Value} {cl : List (Str × Addr)} {outer : List Env} {A₀ : Around} {base h₀ : Heap} {L : Addr} {m : Str → Option Value} {led : Led} {s : Shared}
    {Q E : Value → Shared → Prop} (B : Below A₀ base outer h₀) (F : Fr h₀ L s.heap m) (X : (K0 w.params).In h₀) (N : News h₀ L s.heap led) (T : TT mean mg mb h₀) (hk : cs.kind = .function) (hd : dp < 500) (hu : un < 3000)
    {x d e g0 : Addr} {t : Nat → Tok} {snm par knd path net mdl num : Value} {n : Nat} {oe : Obj} {kvs : List (Str × Value)} {nm : Str} {tn : Tok} {v at' : Value} {gl : Obj → Led}
    (mx : (x, instObj 127 d) ∈ led) (mxd : (d, dictOf (scopeEs w.params t (.ref g0) snm par knd path net mdl (.ref e) num) n) ∈ led) (me : (e, oe) ∈ led) (UF : UpdF e oe led gl) (he : oe.IsDictOf (sk w) kvs) (le : (e == sysModules) = false) (hn : valueAt kvs nm = none) (hz : kvs.length ≤ 100)
    (ret : ∀ o' h' tk', Fr h₀ L h' m → News h₀ L h' (gl o') → o'.IsDictOf (sk w) (stored kvs nm v) → Q .none { s with heap := h', toks := tk' }) :
    wpAny (model Challenge.rw_pq0456_01.row.prog w) (ktrTop dp un gd cn cs L a ccd cl outer) (call (.ref 82) [.ref x, .str nm tn, v, at']) Q E s := by
  revert B F X N T
  k_fill
  intro B F X N T
  have o9 := On.refl s
  refine wpAny_call ?_
  k_dflt (refine code_def (by k_asm) (by k_asm) (by k_asm) (by k_asm) (by k_asm) (by exact rfl) (by exact rfl) (by first | assumption | exact rfl) (by k_is) (by k_is) (by k_room) (by exact BindsTo.of_eq rfl) (by exact locs rfl) ?_ (by exact rfl) (by exact rfl) (by exact rfl) (by decide))
  intro g' L' h' FG' F' N' B' X' T'
  dsimp only [fBody, fStmt, nthS, hdS, tlS, fnBody, clsBody, Challenge.pw_pq0456_01]
  (try k_lift B')
  (try k_fold)
  clear B F T N
  (rename Fr _ _ _ _ => F8)
  obtain ⟨m9, F9, eg0, eg1, eg2, eg3⟩ := fr_gen (fun m => m "self" = some (.ref x) ∧ m "name" = some (.str nm tn) ∧ m "entry" = some (v) ∧ m "at" = some (at')) F8 ⟨rfl, rfl, rfl, rfl⟩
  clear F8
  refine toks_any (s := s) fun k9 => ?_
  k_steps
  exact On.out (Q _) (by walk_at "G on") (ret _ _ _ (by k_asm) (by k_asm) (by assumption))

theorem sc_8 {w : World} {h₀ : Heap} {L : Addr} {m : Str → Option Value} {env : Env} {x d : Addr} {s₀ s : Shared} {led : Led} {A : Around} {Q : Flow → Shared → Prop} {E : Value → Shared → Prop} {dv nv pv kv : Value} (X : (K0 w.params).In h₀) (I : IC w h₀ L m env x 127 d) (S : IS w h₀ L m x 127 d s₀ [] ((x, instObj 127 d) :: led) s)
    (e1 : ∀ led p, Ev w ⟨h₀, L, m, led, env⟩ (.Name "design" p) dv) (e2 : ∀ led p, Ev w ⟨h₀, L, m, led, env⟩ (.Name "name" p) nv) (e3 : ∀ led p, Ev w ⟨h₀, L, m, led, env⟩ (.Name "parent" p) pv) (e4 : ∀ led p, Ev w ⟨h₀, L, m, led, env⟩ (.Name "kind" p) kv)
    (ret : ∀ s' e oe es n tw, On s₀ s' → Fr h₀ L s'.heap m → News h₀ L s'.heap ((e, oe) :: (x, instObj 127 d) :: (d, dictOf es n) :: led) → KV w.params es [(Str.ofString "design", dv), (Str.ofString "name", nv), (Str.ofString "parent", pv), (Str.ofString "kind", kv), (Str.ofString "path", nv), (Str.ofString "nettype", .str (Str.ofString "wire") tw), (Str.ofString "module_name", .none), (Str.ofString "entries", .ref e)] →
      oe.IsDictOf (sk w) [] → (e == sysModules) = false → @LT.lt Nat _ x e → wpAny (model Challenge.rw_pq0456_01.row.prog w) A (execs [nthS 8 (fBody 5 0), nthS 9 (fBody 5 0)] env) Q E s') :
    wpAny (model Challenge.rw_pq0456_01.row.prog w) A (execs (fBody 5 0) env) Q E s := by
  revert X
  k_fill
  intro X
  dsimp only [fBody, fStmt, nthS, hdS, tlS, fnBody, clsBody, Challenge.pw_pq0456_01]
  refine ini_ev I S (e1 _ _) (by k_is) (by exact Nat.le_of_ble_eq_true rfl) (by rfl) fun s1 S => ?_
  refine ini_ev I S (e2 _ _) (by k_is) (by exact Nat.le_of_ble_eq_true rfl) (by rfl) fun s1 S => ?_
  refine ini_ev I S (e3 _ _) (by k_is) (by exact Nat.le_of_ble_eq_true rfl) (by rfl) fun s1 S => ?_
  refine ini_ev I S (e4 _ _) (by k_is) (by exact Nat.le_of_ble_eq_true rfl) (by rfl) fun s1 S => ?_
  refine ini_ev I S (e2 _ _) (by k_is) (by exact Nat.le_of_ble_eq_true rfl) (by rfl) fun s1 S => ?_
  refine ini_str I S (by k_is) (by exact Nat.le_of_ble_eq_true rfl) (by rfl) fun s1 t1 S => ?_
  refine ini_ev I S ev_none (by k_is) (by exact Nat.le_of_ble_eq_true rfl) (by rfl) fun s1 S => ?_
  refine ini_dict I S (by k_is) (by exact Nat.le_of_ble_eq_true rfl) (by rfl) fun s1 l1 o1 h1 lo hd S => ?_
  cases S with
  | mk o F K N _ _ => exact ret _ _ _ _ _ t1 o F (is_rot N) K hd lo (h1 _ (.head _))
theorem ds_scope {w : World} {mean : ExcName → Option Value} {mg mb : Str → Option Value} {dp un : Nat} {gd : Option (List Code)} {cn : Str} {cs : Scope} {a : Addr} {ccd : Value} {cl : List (Str × Addr)} {outer : List Env} {A₀ : Around} {base h₀ : Heap} {L : Addr} {m : Str → Option Value} {led : Led} {s : Shared}
    {Q E : Value → Shared → Prop} (B : Below A₀ base outer h₀) (F : Fr h₀ L s.heap m) (X : (K0 w.params).In h₀) (N : News h₀ L s.heap led) (T : TT mean mg mb h₀) (hk : cs.kind = .function) (hd : dp < 600)
    {g gdd sl : Addr} {tg : Nat → Tok} {dsg1 dsg2 dsg3 dsg4 dsg5 rlv tpp po mk ne bp : Value} {ng : Nat} (mg2 : (g, instObj 218 gdd) ∈ led) (mgd2 : (gdd, dictOf (designEs w.params tg dsg1 dsg2 dsg3 dsg4 dsg5 rlv (.ref sl) tpp po mk ne bp) ng) ∈ led)
    {scs : List Value} {ns : Nat} {gl : Led} {path : Value} (msl : (sl, listOf scs.toArray ns) ∈ led) (UU : Upd sl (listOf scs.toArray ns) (listOf (scs ++ [path]).toArray (ns + 1)) led gl) (hz : scs.length ≤ 100)
    (ret : ∀ h' tk' num tnum, Fr h₀ L h' m → News h₀ L h' gl → Q (.int num tnum) { s with heap := h', toks := tk' }) :
    wpAny (model Challenge.rw_pq0456_01.row.prog w) (ktrTop dp un gd cn cs L a ccd cl outer) (call (.ref 187) [.ref g, path]) Q E s := by
  revert B F X N T
  k_fill
  intro B F X N T
  have o9 := On.refl s
  have msl2 := upd_mem UU
  have mg3 := mem_upd UU mg2 (fun h => nomatch congrArg Obj.data h)
  have mgd3 := mem_upd UU mgd2 (fun h => nomatch congrArg Obj.data h)
  refine wpAny_call ?_
  k_dflt (refine code_def (by k_asm) (by k_asm) (by k_asm) (by k_asm) (by k_asm) (by exact rfl) (by exact rfl) (by first | assumption | exact rfl) (by k_is) (by k_is) (by k_room) (by exact BindsTo.of_eq rfl) (by exact locs rfl) ?_ (by exact rfl) (by exact rfl) (by exact rfl) (by decide))
  intro g' L' h' FG' F' N' B' X' T'
  dsimp only [fBody, fStmt, nthS, hdS, tlS, fnBody, clsBody, Challenge.pw_pq0456_01]
  (try k_lift B')
  (try k_fold)
  clear B F T N
  (rename Fr _ _ _ _ => F8)
  obtain ⟨m9, F9, eg0, eg1⟩ := fr_gen (fun m => m "self" = some (.ref g) ∧ m "path" = some (path)) F8 ⟨rfl, rfl⟩
  clear F8
  refine toks_any (s := s) fun k9 => ?_
  k_steps
  exact On.out (Q _) (by walk_at "G on") (ret _ _ _ _ (by k_asm) (by k_asm))
theorem sc_in {w : World} {mean : ExcName → Option Value} {mg mb : Str → Option Value} {dp un : Nat} {gd : Option (List Code)} {cn : Str} {cs : Scope} {a : Addr} {ccd : Value} {cl : List (Str × Addr)} {outer : List Env} {A₀ : Around} {base h₀ : Heap} {L : Addr} {m : Str → Option Value} {led : Led} {s : Shared}
    {Q E : Value → Shared → Prop} (B : Below A₀ base outer h₀) (F : Fr h₀ L s.heap m) (X : (K0 w.params).In h₀) (N : News h₀ L s.heap led) (T : TT mean mg mb h₀) (hk : cs.kind = .function) (hd : dp < 500) (hu : un < 3000)
    {g gdd sl : Addr} {tg : Nat → Tok} {dsg1 dsg2 dsg3 dsg4 dsg5 rlv tpp po mk ne bp : Value} {ng : Nat} (mg' : (g, instObj 218 gdd) ∈ led) (mgd : (gdd, dictOf (designEs w.params tg dsg1 dsg2 dsg3 dsg4 dsg5 rlv (.ref sl) tpp po mk ne bp) ng) ∈ led)
    {scs : List Value} {ns : Nat} (msl : (sl, listOf scs.toArray ns) ∈ led) {gl : Value → Led} (UU : ∀ v, Upd sl (listOf scs.toArray ns) (listOf (scs ++ [v]).toArray (ns + 1)) led (gl v)) (hz : scs.length ≤ 100)
    {nm : Str} {tnm : Tok} {kind : Value} (hnm : nm.length ≤ 100)
    {p pd : Addr} {t : Nat → Tok} {dsg pnm par knd mdl en num : Value} {path net : Str} {tp tn : Tok} {n : Nat} (mp : (p, instObj 127 pd) ∈ led) (mpd : (pd, dictOf (scopeEs w.params t dsg pnm par knd (.str path tp) (.str net tn) mdl en num) n) ∈ led) (hpath : path.length ≤ 100)
    (ret : ∀ x' d' e' o' h' tk' (t' : Nat → Tok) (tp' tw' : Tok) (num : Int) (tnum : Tok) (v : Value) (n' : Nat), Fr h₀ L h' m → News h₀ L h' ((e', o') :: (x', instObj 127 d') :: (d', dictOf (scopeEs w.params t' (.ref g) (.str nm tnm) (.ref p) kind (.str (path ++ Str.ofString "." ++ nm) tp') (.str net tw') .none (.ref e') (.int num tnum)) n') :: gl v) →
      o'.IsDictOf (sk w) [] → (e' == sysModules) = false → AllLt d' led → @LT.lt Nat _ d' x' → @LT.lt Nat _ x' e' → Q (.ref x') { s with heap := h', toks := tk' }) :
    wpAny (model Challenge.rw_pq0456_01.row.prog w) (ktrTop dp un gd cn cs L a ccd cl outer) (call (.ref 127) [.ref g, .str nm tnm, .ref p, kind]) Q E s := by
  revert B F X N T
  k_fill
  intro B F X N T
  have o9 := On.refl s
  have mg2 := fun v => mem_upd (UU v) mg' (fun h => nomatch congrArg Obj.data h)
  have mgd2 := fun v => mem_upd (UU v) mgd (fun h => nomatch congrArg Obj.data h)
  have msl2 := fun v => upd_mem (UU v)
  refine call_cls (by k_asm) (by k_asm) (by k_asm) (by k_is) (by k_is) (by k_is) ?_
  intro x' d' h' F' N' l1 l2
  replace l1 := allLt_of l1
  have l12 := fun v => upd_lt (UU v) l1
  k_lt2 l2
  clear F N
  k_dflt (refine code_def (by k_asm) (by k_asm) (by k_asm) (by k_asm) (by k_asm) (by exact rfl) (by exact rfl) (by first | assumption | exact rfl) (by k_is) (by k_is) (by k_room) (by exact BindsTo.of_eq rfl) (by exact locs rfl) ?_ (by exact rfl) (by exact rfl) (by exact rfl) (by decide))
  intro g' L' h' FG' F' N' B' X' T'
  (try k_lift B')
  (try k_fold)
  clear B T
  obtain ⟨m9, F9, e1, e2, e3, e4, e5⟩ : ∃ m9, Fr g' L' h' m9 ∧ m9 "self" = some (.ref x') ∧ m9 "design" = some (.ref g) ∧ m9 "name" = some (.str nm tnm) ∧ m9 "parent" = some (.ref p) ∧ m9 "kind" = some kind := ⟨_, F', rfl, rfl, rfl, rfl, rfl⟩
  clear F'
  have l13 : ∀ p ∈ led, p.1 ≠ d' := fun p hp => Nat.ne_of_lt (allLt_mem l1 p hp)
  refine anew (s₀ := s) ⟨rfl, rfl, rfl⟩ F9 N' (fun s9 o9 F9 N9 => ?_)
  refine sc_8 (s₀ := s) (by assumption) ⟨by assumption, Top.nolimit (by assumption), fun led p => ev_name e1, by k_is, by k_is, by k_is⟩ (.mk o9 F9 KV.nil (is_swap N9) (.head _) (fun p hp => (List.mem_cons.mp hp).elim (fun e => e ▸ Nat.ne_of_gt l2) (l13 p))) (fun led p => ev_name e2) (fun led p => ev_name e3) (fun led p => ev_name e4) (fun led p => ev_name e5) fun s9 e oe es n9 tw o9 F9 N9 K9 hd9 lo9 l3 => ?_
  have l4 := Nat.lt_trans l2 l3
  dsimp only [fBody, fStmt, nthS, hdS, tlS, fnBody, clsBody, Challenge.pw_pq0456_01]
  k_with "call ref" => (k_here; (with_reducible show wpAny _ _ (call (Value.ref 187) _) _ _ _); k_dflt (refine ds_scope (by k_asm) (by k_asm) (by k_asm) (by k_asm) (by k_asm) (by rfl) (by ktr_room) (by k_mem) (by k_mem) (by k_mem) (Upd.tail (Nat.ne_of_gt (Nat.lt_trans (ltm l1 msl) l4)) (Upd.tail (Nat.ne_of_gt (Nat.lt_trans (ltm l1 msl) l2)) (Upd.tail (Nat.ne_of_gt (ltm l1 msl)) (UU _)))) hz (fun h' tk' num tnum F' N' => ?_)); (try k_sweep))
  k_steps
  (rename KV _ _ _ => K8)
  (rename Fr h₀ L _ _ => F8)
  (rename News h₀ L _ _ => N8)
  obtain ⟨t9, e9⟩ := K8.toks 0
  rw [e9] at N8
  exact On.out (Q _) (by walk_at "G on") (ret _ _ _ _ _ _ t9 _ _ _ _ _ _ F8 N8 (by assumption) (by assumption) l1 l2 (by first | assumption | exact And.left (by assumption)))

theorem sc_top {w : World} {mean : ExcName → Option Value} {mg mb : Str → Option Value} {dp un : Nat} {gd : Option (List Code)} {cn : Str} {cs : Scope} {a : Addr} {ccd : Value} {cl : List (Str × Addr)} {outer : List Env} {A₀ : Around} {base h₀ : Heap} {L : Addr} {m : Str → Option Value} {led : Led} {s : Shared}
    {Q E : Value → Shared → Prop} (B : Below A₀ base outer h₀) (F : Fr h₀ L s.heap m) (X : (K0 w.params).In h₀) (N : News h₀ L s.heap led) (T : TT mean mg mb h₀) (hk : cs.kind = .function) (hd : dp < 400) (hu : un < 2000)
    {g gdd sl : Addr} {tg : Nat → Tok} {dsg1 dsg2 dsg3 dsg4 dsg5 rlv tpp po mk ne bp : Value} {ng : Nat} (mg' : (g, instObj 218 gdd) ∈ led) (mgd : (gdd, dictOf (designEs w.params tg dsg1 dsg2 dsg3 dsg4 dsg5 rlv (.ref sl) tpp po mk ne bp) ng) ∈ led)
    {scs : List Value} {ns : Nat} (msl : (sl, listOf scs.toArray ns) ∈ led) {gl : Value → Led} (UU : ∀ v, Upd sl (listOf scs.toArray ns) (listOf (scs ++ [v]).toArray (ns + 1)) led (gl v)) (hz : scs.length ≤ 100)
    {nm : Str} {tnm : Tok} {kind : Value} (hnm : nm.length ≤ 100)
    (ret : ∀ x' d' e' o' h' tk' (t' : Nat → Tok) (tp' tw' : Tok) (num : Int) (tnum : Tok) (v : Value) (n' : Nat), Fr h₀ L h' m → News h₀ L h' ((e', o') :: (x', instObj 127 d') :: (d', dictOf (scopeEs w.params t' (.ref g) (.str nm tnm) .none kind (.str (nm) tp') (.str (Str.ofString "wire") tw') .none (.ref e') (.int num tnum)) n') :: gl v) →
      o'.IsDictOf (sk w) [] → (e' == sysModules) = false → AllLt d' led → @LT.lt Nat _ d' x' → @LT.lt Nat _ x' e' → Q (.ref x') { s with heap := h', toks := tk' }) :
    wpAny (model Challenge.rw_pq0456_01.row.prog w) (ktrTop dp un gd cn cs L a ccd cl outer) (call (.ref 127) [.ref g, .str nm tnm, .none, kind]) Q E s := by
  revert B F X N T
  k_fill
  intro B F X N T
  have o9 := On.refl s
  have mg2 := fun v => mem_upd (UU v) mg' (fun h => nomatch congrArg Obj.data h)
  have mgd2 := fun v => mem_upd (UU v) mgd (fun h => nomatch congrArg Obj.data h)
  have msl2 := fun v => upd_mem (UU v)
  refine call_cls (by k_asm) (by k_asm) (by k_asm) (by k_is) (by k_is) (by k_is) ?_
  intro x' d' h' F' N' l1 l2
  replace l1 := allLt_of l1
  have l12 := fun v => upd_lt (UU v) l1
  k_lt2 l2
  clear F N
  k_dflt (refine code_def (by k_asm) (by k_asm) (by k_asm) (by k_asm) (by k_asm) (by exact rfl) (by exact rfl) (by first | assumption | exact rfl) (by k_is) (by k_is) (by k_room) (by exact BindsTo.of_eq rfl) (by exact locs rfl) ?_ (by exact rfl) (by exact rfl) (by exact rfl) (by decide))
  intro g' L' h' FG' F' N' B' X' T'
  (try k_lift B')
  (try k_fold)
  clear B T
  obtain ⟨m9, F9, e1, e2, e3, e4, e5⟩ : ∃ m9, Fr g' L' h' m9 ∧ m9 "self" = some (.ref x') ∧ m9 "design" = some (.ref g) ∧ m9 "name" = some (.str nm tnm) ∧ m9 "parent" = some (.none) ∧ m9 "kind" = some kind := ⟨_, F', rfl, rfl, rfl, rfl, rfl⟩
  clear F'
  have l13 : ∀ p ∈ led, p.1 ≠ d' := fun p hp => Nat.ne_of_lt (allLt_mem l1 p hp)
  refine anew (s₀ := s) ⟨rfl, rfl, rfl⟩ F9 N' (fun s9 o9 F9 N9 => ?_)
  refine sc_8 (s₀ := s) (by assumption) ⟨by assumption, Top.nolimit (by assumption), fun led p => ev_name e1, by k_is, by k_is, by k_is⟩ (.mk o9 F9 KV.nil (is_swap N9) (.head _) (fun p hp => (List.mem_cons.mp hp).elim (fun e => e ▸ Nat.ne_of_gt l2) (l13 p))) (fun led p => ev_name e2) (fun led p => ev_name e3) (fun led p => ev_name e4) (fun led p => ev_name e5) fun s9 e oe es n9 tw o9 F9 N9 K9 hd9 lo9 l3 => ?_
  have l4 := Nat.lt_trans l2 l3
  dsimp only [fBody, fStmt, nthS, hdS, tlS, fnBody, clsBody, Challenge.pw_pq0456_01]
  k_with "call ref" => (k_here; (with_reducible show wpAny _ _ (call (Value.ref 187) _) _ _ _); k_dflt (refine ds_scope (by k_asm) (by k_asm) (by k_asm) (by k_asm) (by k_asm) (by rfl) (by ktr_room) (by k_mem) (by k_mem) (by k_mem) (Upd.tail (Nat.ne_of_gt (Nat.lt_trans (ltm l1 msl) l4)) (Upd.tail (Nat.ne_of_gt (Nat.lt_trans (ltm l1 msl) l2)) (Upd.tail (Nat.ne_of_gt (ltm l1 msl)) (UU _)))) hz (fun h' tk' num tnum F' N' => ?_)); (try k_sweep))
  k_steps
  (rename KV _ _ _ => K8)
  (rename Fr h₀ L _ _ => F8)
  (rename News h₀ L _ _ => N8)
  obtain ⟨t9, e9⟩ := K8.toks 0
  rw [e9] at N8
  exact On.out (Q _) (by walk_at "G on") (ret _ _ _ _ _ _ t9 _ _ _ _ _ _ F8 N8 (by assumption) (by assumption) l1 l2 (by first | assumption | exact And.left (by assumption)))

theorem sc_lookup {w : World} {mean : ExcName → Option Value} {mg mb : Str → Option Value} {dp un : Nat} {gd : Option (List Code)} {cn : Str} {cs : Scope} {a : Addr} {ccd : Value} {cl : List (Str × Addr)} {outer : List Env} {A₀ : Around} {base h₀ : Heap} {L : Addr} {m : Str → Option Value} {led : Led} {s : Shared}
    {Q E : Value → Shared → Prop} (B : Below A₀ base outer h₀) (F : Fr h₀ L s.heap m) (X : (K0 w.params).In h₀) (N : News h₀ L s.heap led) (T : TT mean mg mb h₀) (hk : cs.kind = .function) (hd : dp < 500) (hu : un < 3000)
    {x d e g0 : Addr} {t : Nat → Tok} {snm par knd path net mdl num : Value} {n : Nat} {oe : Obj} {kvs : List (Str × Value)} {nm : Str} {tn : Tok} {v : Value}
    (mx : (x, instObj 127 d) ∈ led) (mxd : (d, dictOf (scopeEs w.params t (.ref g0) snm par knd path net mdl (.ref e) num) n) ∈ led) (me : (e, oe) ∈ led) (he : oe.IsDictOf (sk w) kvs) (le : (e == sysModules) = false) (hv : valueAt kvs nm = some v)
    (ret : ∀ h' tk', Fr h₀ L h' m → News h₀ L h' led → Q v { s with heap := h', toks := tk' }) :
    wpAny (model Challenge.rw_pq0456_01.row.prog w) (ktrTop dp un gd cn cs L a ccd cl outer) (call (.ref 96) [.ref x, .str nm tn]) Q E s := by
  revert B F X N T
  k_fill
  intro B F X N T
  have o9 := On.refl s
  k_with "exec While Compare cons nil" => (k_here; k_dflt (refine whl_start 3 ?_))
  refine wpAny_call ?_
  k_dflt (refine code_def (by k_asm) (by k_asm) (by k_asm) (by k_asm) (by k_asm) (by exact rfl) (by exact rfl) (by first | assumption | exact rfl) (by k_is) (by k_is) (by k_room) (by exact BindsTo.of_eq rfl) (by exact locs rfl) ?_ (by exact rfl) (by exact rfl) (by exact rfl) (by decide))
  intro g' L' h' FG' F' N' B' X' T'
  dsimp only [fBody, fStmt, nthS, hdS, tlS, fnBody, clsBody, Challenge.pw_pq0456_01]
  (try k_lift B')
  (try k_fold)
  clear B F T N
  (rename Fr _ _ _ _ => F8)
  obtain ⟨m9, F9, eg0, eg1⟩ := fr_gen (fun m => m "self" = some (.ref x) ∧ m "name" = some (.str nm tn)) F8 ⟨rfl, rfl⟩
  clear F8
  refine toks_any (s := s) fun k9 => ?_
  k_steps
  exact On.out (Q _) (by walk_at "G on") (ret _ _ (by k_asm) (by k_asm))
theorem dict_ne_list {w : World} {o : Obj} {kvs : List (Str × Value)} {l : List Value} {n : Nat} (h : o.IsDictOf (sk w) kvs) : o ≠ listOf l.toArray n := by
  rintro rfl
  obtain ⟨es, ep, -, h2, -⟩ := h
  exact nomatch h2
theorem sc_child {w : World} {mean : ExcName → Option Value} {mg mb : Str → Option Value} {dp un : Nat} {gd : Option (List Code)} {cn : Str} {cs : Scope} {a : Addr} {ccd : Value} {cl : List (Str × Addr)} {outer : List Env} {A₀ : Around} {base h₀ : Heap} {L : Addr} {m : Str → Option Value} {led : Led} {s : Shared}
    {Q E : Value → Shared → Prop} (B : Below A₀ base outer h₀) (F : Fr h₀ L s.heap m) (X : (K0 w.params).In h₀) (N : News h₀ L s.heap led) (T : TT mean mg mb h₀) (hk : cs.kind = .function) (hd : dp < 400) (hu : un < 2000)
    {g gdd sl : Addr} {tg : Nat → Tok} {dsg1 dsg2 dsg3 dsg4 dsg5 rlv tpp po mk ne bp : Value} {ng : Nat} (mg' : (g, instObj 218 gdd) ∈ led) (mgd : (gdd, dictOf (designEs w.params tg dsg1 dsg2 dsg3 dsg4 dsg5 rlv (.ref sl) tpp po mk ne bp) ng) ∈ led)
    {scs : List Value} {ns : Nat} (msl : (sl, listOf scs.toArray ns) ∈ led) {gl : Value → Led} (UU : ∀ v, Upd sl (listOf scs.toArray ns) (listOf (scs ++ [v]).toArray (ns + 1)) led (gl v)) (hz : scs.length ≤ 100)
    {nm : Str} {tnm : Tok} {kind : Value} (hnm : nm.length ≤ 100)
    {x d e : Addr} {t : Nat → Tok} {snm par knd mdl num : Value} {path net : Str} {tp tn : Tok} {n : Nat} {oe : Obj} {kvs : List (Str × Value)} {at' : Value} {gl2 : Value → Obj → Led}
    (mx : (x, instObj 127 d) ∈ led) (mxd : (d, dictOf (scopeEs w.params t (.ref g) snm par knd (.str path tp) (.str net tn) mdl (.ref e) num) n) ∈ led) (hpath : path.length ≤ 100) (me : (e, oe) ∈ led) (he : oe.IsDictOf (sk w) kvs) (le : (e == sysModules) = false) (hn : valueAt kvs nm = none) (hzk : kvs.length ≤ 100)
    (UF2 : ∀ v, UpdF e oe (gl v) (gl2 v))
    (ret : ∀ tt x' d' e' o' o2 h' tk' (t' : Nat → Tok) (tsc tp' tw' : Tok) (num : Int) (tnum : Tok) (v : Value) (n' : Nat), Fr h₀ L h' m → News h₀ L h' ((tt, tupO [.str (Str.ofString "scope") tsc, .ref x']) :: (e', o') :: (x', instObj 127 d') :: (d', dictOf (scopeEs w.params t' (.ref g) (.str nm tnm) (.ref x) kind (.str (path ++ Str.ofString "." ++ nm) tp') (.str net tw') .none (.ref e') (.int num tnum)) n') :: gl2 v o2) →
      o'.IsDictOf (sk w) [] → (e' == sysModules) = false → o2.IsDictOf (sk w) (stored kvs nm (.ref tt)) → AllLt d' led → @LT.lt Nat _ d' x' → @LT.lt Nat _ x' e' → @LT.lt Nat _ e' tt → Q (.ref x') { s with heap := h', toks := tk' }) :
    wpAny (model Challenge.rw_pq0456_01.row.prog w) (ktrTop dp un gd cn cs L a ccd cl outer) (call (.ref 75) [.ref x, .str nm tnm, kind, at']) Q E s := by
  revert B F X N T
  k_fill
  intro B F X N T
  have o9 := On.refl s
  have mg2 := fun v => mem_upd (UU v) mg' (fun h => nomatch congrArg Obj.data h)
  have mgd2 := fun v => mem_upd (UU v) mgd (fun h => nomatch congrArg Obj.data h)
  have msl2 := fun v => upd_mem (UU v)
  have mx2 := fun v => mem_upd (UU v) mx (fun h => nomatch congrArg Obj.data h)
  have mxd2 := fun v => mem_upd (UU v) mxd (fun h => nomatch congrArg Obj.data h)
  have me2 := fun v => mem_upd (UU v) me (dict_ne_list he)
  k_with "call ref" => (k_here; (with_reducible show wpAny _ _ (call (Value.ref 127) _) _ _ _); k_dflt (refine sc_in (by k_asm) (by k_asm) (by k_asm) (by k_asm) (by k_asm) (by rfl) (by ktr_room) (by ktr_units) mg' mgd msl UU hz hnm mx mxd hpath (fun x' d' e' o' h' tk' t' tp' tw' num tnum v n' F' N' hd' lo' l1 l2 l3 => ?_)); (try k_sweep))
  k_with "call ref" => (k_here; (with_reducible show wpAny _ _ (call (Value.ref 82) _) _ _ _); k_dflt (refine sc_declare (by k_asm) (by k_asm) (by k_asm) (by k_asm) (by k_asm) (by rfl) (by ktr_room) (by ktr_units) (by k_mem) (by k_mem) (by k_mem) (by walk_at "G updC") he le hn hzk (fun o2 h' tk' F' N' hd2 => ?_)); (try k_sweep))
  k_with "G mem2" => first | exact mx2 _ | exact mxd2 _ | exact me2 _
  k_with "G ltd" => exact ltm (by with_reducible assumption) me
  k_with "G updC" => exact UpdF.tail (Nat.ne_of_gt (Nat.lt_trans (Nat.lt_trans (Nat.lt_trans (by walk_at "G ltd") l2) l3) (And.left (by assumption)))) (UpdF.tail (Nat.ne_of_gt (Nat.lt_trans (Nat.lt_trans (by walk_at "G ltd") l2) l3)) (UpdF.tail (Nat.ne_of_gt (Nat.lt_trans (by walk_at "G ltd") l2)) (UpdF.tail (Nat.ne_of_gt (by walk_at "G ltd")) (UF2 _))))
  refine wpAny_call ?_
  k_dflt (refine code_def (by k_asm) (by k_asm) (by k_asm) (by k_asm) (by k_asm) (by exact rfl) (by exact rfl) (by first | assumption | exact rfl) (by k_is) (by k_is) (by k_room) (by exact BindsTo.of_eq rfl) (by exact locs rfl) ?_ (by exact rfl) (by exact rfl) (by exact rfl) (by decide))
  intro g' L' h' FG' F' N' B' X' T'
  dsimp only [fBody, fStmt, nthS, hdS, tlS, fnBody, clsBody, Challenge.pw_pq0456_01]
  (try k_lift B')
  (try k_fold)
  clear B F T N
  (rename Fr _ _ _ _ => F8)
  obtain ⟨m9, F9, eg0, eg1, eg2, eg3⟩ := fr_gen (fun m => m "self" = some (.ref x) ∧ m "name" = some (.str nm tnm) ∧ m "kind" = some (kind) ∧ m "at" = some (at')) F8 ⟨rfl, rfl, rfl, rfl⟩
  clear F8
  refine toks_any (s := s) fun k9 => ?_
  k_steps
  exact On.out (Q _) (by walk_at "G on") (ret _ _ _ _ _ _ _ _ t' _ _ _ _ _ _ _ (by k_asm) (by k_asm) hd' lo' hd2 (by with_reducible assumption) l2 l3 (And.left (by with_reducible assumption)))
theorem lines_k2 : True := by
  k_with_none
  k_with "G val" => first | exact rfl | assumption
  k_with "G isb" => first | exact isSome_some (by assumption) | exact isSome_none (by assumption) | exact isSome_none rfl | exact isSome_some rfl
  k_with "Ev Name" => (fail_if_success plain_pass); k_dflt (exact ev_name (by walk_at "G val"))
  k_with "Ev Constant" => (fail_if_success plain_pass); k_dflt (first | exact ev_none | exact ev_bool)
  k_with "Ev Attribute" => (fail_if_success plain_pass); k_dflt (exact ev_attr (by walk1) (by k_asm) (by k_mem) (by k_mem) (by k_is) (by k_is) (by k_is) (by k_is) (by walk_at "G get") (by first | assumption | k_handed) (by with_unfolding_all rfl))
  k_with "Ev Subscript" => (fail_if_success plain_pass); k_dflt (first
    | exact ev_item_tup (by walk1) (by k_mem) (by decide) (by decide) (by rfl) (by rfl)
    | exact ev_item_lit (by walk1) (by k_mem) (by decide) (by decide) (by first | rfl | assumption)
    | exact ev_item_dict (by walk1) (by walk1) (by k_mem) (by assumption) (by assumption) (by with_unfolding_all rfl)
    | exact ev_item_list (by walk1) (by walk1) (by k_mem) (by omega) (by omega) (by assumption) (by with_unfolding_all rfl))
  k_with "Tw BoolOp" => (fail_if_success plain_pass); k_dflt (first
    | exact tw_and_nil
    | exact tw_or_nil
    | exact tw_and (by walk1) (by walk1)
    | exact tw_or (by walk1) (by walk1))
  k_with "AndK true" => (fail_if_success plain_pass); k_dflt (exact AndK.yes (by walk1))
  k_with "AndK false" => (fail_if_success plain_pass); exact AndK.no
  k_with "OrK false" => (fail_if_success plain_pass); k_dflt (exact OrK.no (by walk1))
  k_with "OrK true" => (fail_if_success plain_pass); exact OrK.yes
  k_with "G eqs" => first | exact (rfl : (_ : Bool) = true) | exact (rfl : (_ : Bool) = false) | assumption
  k_with "Te Compare" => (fail_if_success plain_pass); k_dflt (first
    | exact te_eq_str (by walk1) (by walk_at "G eqs")
    | exact te_none_yes (by walk1)
    | exact te_none_no (by walk1)
    | exact te_some_yes (by walk1)
    | exact te_some_no (by walk1)
    | exact te_in_yes (by walk1) (by walk1) (by k_mem) (by assumption) (by assumption) (by walk_at "G val") (by with_unfolding_all rfl)
    | exact te_in_no (by walk1) (by walk1) (by k_mem) (by assumption) (by assumption) (by walk_at "G val") (by with_unfolding_all rfl)
    | exact te_notin_yes (by walk1) (by walk1) (by k_mem) (by assumption) (by assumption) (by walk_at "G val") (by with_unfolding_all rfl)
    | exact te_notin_no (by walk1) (by walk1) (by k_mem) (by assumption) (by assumption) (by walk_at "G val") (by with_unfolding_all rfl))
  k_with "Te BoolOp" => (fail_if_success plain_pass); k_dflt (exact te_tw (by walk1))
  k_with "Te Name" => (fail_if_success plain_pass); k_dflt (exact te_bool (by walk1) (by with_unfolding_all rfl))
  k_with "eval Name" => (fail_if_success plain_pass); k_dflt (refine ev_use (by k_asm) (by k_asm) (by walk1) (fun k' => ?_))
  k_with "eval Attribute" => (fail_if_success plain_pass); k_dflt (refine ev_use (by k_asm) (by k_asm) (by walk1) (fun k' => ?_))
  k_with "eval Attribute Name" => (fail_if_success plain_pass); k_dflt (refine ev_use (by k_asm) (by k_asm) (by walk1) (fun k' => ?_))
  k_with "isTrue Compare" => (fail_if_success plain_pass); k_dflt (refine te_use (by k_asm) (by k_asm) (by walk1) (fun k' => ?_))
  k_with "G on" => exact On.step (by with_reducible assumption) (by rfl) (by rfl) (by rfl)
  k_with "execs cons" => (fail_if_success plain_pass); (k_dflt (refine anew (by walk_at "G on") (by k_asm) (by k_asm) (fun s9 o9 F9 N9 => ?_))); (try k_sweep); k_dflt (first
    | ((with_reducible show wpAny _ _ (execs (Stmt.Assign [PySem.Expr.Attribute _ _ _] _ _ :: _) _) _ _ _); (refine s_attr o9 F9 N9 (by walk1) (by walk1) (by assumption) (by k_mem) (by k_mem) (by k_is) (by k_is) (by k_is) (by k_is) (by walk_at "G keys") (by exact Nat.le_of_ble_eq_true rfl) (by intro es9 n9; walk_at "G updA") (fun s9 es9 n9 K9 o9 F9 N9 => ?_)); (try k_sweep))
    | ((with_reducible show wpAny _ _ (execs (Stmt.Assign [PySem.Expr.Name _ _] _ _ :: _) _) _ _ _); (refine s_assign F9 N9 (by walk1) (fun h' k' F' N' => ?_)); (try k_sweep))
    | ((with_reducible show wpAny _ _ (execs (Stmt.If _ _ _ _ :: _) _) _ _ _); refine s_if F9 N9 (by walk1) ?_)
    | ((with_reducible show wpAny _ _ (execs (Stmt.Return (some _) _ :: _) _) _ _ _); refine s_return F9 N9 (by walk1) (fun k' => ?_))
    | refine stmt_one ?_
    | refine stmt_cut (fun K hK => ?_))
  k_with "IfK true" => (fail_if_success plain_pass); first | with_reducible refine IfK.one (fun k' => ?_) | with_reducible refine IfK.tt (fun K hK k' => ?_)
  k_with "IfK false" => (fail_if_success plain_pass); first | with_reducible refine IfK.skip (fun k' => ?_) | with_reducible refine IfK.other (fun k' => ?_) | with_reducible refine IfK.ff (fun K hK k' => ?_)
  k_with "G back" => first | with_reducible refine Sq.next (by with_reducible assumption) _ ?_ | with_reducible refine Sq.ret (by with_reducible assumption) _ _ ?_ | with_reducible refine Br.t (by with_reducible assumption) _ ?_ | with_reducible refine Br.f (by with_reducible assumption) _ ?_
  k_with "call ref" => (k_here; (with_reducible show wpAny _ _ (call (Value.ref 187) _) _ _ _); k_dflt (refine wpAny_call ?_; k_dflt ktr_enter); dsimp only [fBody, fStmt, nthS, hdS, tlS, fnBody, clsBody, Challenge.pw_pq0456_01])
  k_with "call builtin:list.append" => (k_here; (with_reducible show wpAny _ _ (call (Value.builtin _) [Value.ref _, _]) _ _ _); k_dflt (refine list_push (by k_asm) (by k_asm) (by walk_at "G upd") (by first | omega | (simp only [List.length_append, List.length_cons, List.length_nil]; omega)) ?_); intro h' F' N'; (try k_sweep))
  k_with "call builtin:len" => (k_here; (with_reducible show wpAny _ _ (call (Value.builtin "len") [Value.ref _]) _ _ _); k_dflt (refine list_len (by k_asm) (by k_mem) (by first | omega | (simp only [List.length_append, List.length_cons, List.length_nil]; omega)) ?_))
  k_with "setItem ref str" => (k_here; k_dflt (refine ent_set (by k_asm) (by k_asm) (by walk_at "G updF") (by assumption) (by first | omega | exact Nat.le_of_ble_eq_true rfl) ?_); intro h' o' F' N' hd'; (try dsimp only at N'))
  k_with "G keys" => first | with_reducible assumption | exact KV.nil
  k_with "G ne2" => first | exact Nat.ne_of_gt (by with_reducible assumption) | exact Nat.ne_of_gt (And.left (by with_reducible assumption)) | exact Nat.ne_of_gt (And.left (And.right (by with_reducible assumption))) | exact Nat.ne_of_gt (And.left (And.right (And.right (by with_reducible assumption))))
  k_with "G updA" => first | exact Upd.head (by k_all) | exact Upd.tail (by walk_at "G ne2") (by walk_at "G updA")
  k_with "setAttr ref" => (k_dflt (refine set_kv (by walk_at "G on") (by k_asm) (by k_asm) (by assumption) (by k_mem) (by k_mem) (by k_is) (by k_is) (by k_is) (by k_is) (by walk_at "G keys") (by exact Nat.le_of_ble_eq_true rfl) (by intro es9 n9; walk_at "G updA") (fun s9 es9 n9 K9 o9 F9 N9 => ?_)); (try k_sweep))
  k_with "G get" => first | k_get | exact KV.get (by with_reducible assumption) (by rfl)
  k_with "G mem2" => first | exact mg2 _ | exact mgd2 _ | exact msl2 _
  k_with "G all2" => exact (fun p hp => Nat.ne_of_lt (allLt_mem (l12 _) p hp))
  k_with "G ne" => first | exact Nat.ne_of_gt (ltm (by with_reducible assumption) (by with_reducible assumption)) | exact Nat.ne_of_gt (ltm2 (by with_reducible assumption) (by with_reducible assumption) (by with_reducible assumption)) | exact Nat.ne_of_gt (ltm (And.right (And.right (by with_reducible assumption))) (by with_reducible assumption))
  k_with "G upd" => first | k_upd | with_reducible assumption | exact UU _ | exact Upd.tail (by walk_at "G ne") (by walk_at "G upd")
  k_with "G updF" => first | with_reducible assumption | exact UF | k_updF
  trivial
theorem rt_body {w : World} {h₀ : Heap} {L : Addr} {m : Str → Option Value} {env : Env} {x d : Addr} {s₀ s : Shared} {led : Led} {A : Around} {Q : Flow → Shared → Prop} {E : Value → Shared → Prop} {num path isf aut at' : Value} (X : (K0 w.params).In h₀) (I : IC w h₀ L m env x 155 d) (S : IS w h₀ L m x 155 d s₀ [] ((x, instObj 155 d) :: led) s)
    (e1 : ∀ led p, Ev w ⟨h₀, L, m, led, env⟩ (.Name "number" p) num) (e2 : ∀ led p, Ev w ⟨h₀, L, m, led, env⟩ (.Name "path" p) path) (e3 : ∀ led p, Ev w ⟨h₀, L, m, led, env⟩ (.Name "is_function" p) isf) (e4 : ∀ led p, Ev w ⟨h₀, L, m, led, env⟩ (.Name "automatic" p) aut) (e5 : ∀ led p, Ev w ⟨h₀, L, m, led, env⟩ (.Name "at" p) at')
    (ret : ∀ s' p1 s1 (t' : Nat → Tok) (wid dis : Value) (n' : Nat), On s₀ s' → Fr h₀ L s'.heap m → News h₀ L s'.heap ((s1, listOf ([] : List Value).toArray 0) :: (p1, listOf ([] : List Value).toArray 0) :: (x, instObj 155 d) :: (d, dictOf (routineEs w.params t' num path isf aut at' wid (.bool false) (.ref p1) (.ref s1) .none .none .none dis (.bool false)) n') :: led) →
      @LT.lt Nat _ x p1 → @LT.lt Nat _ p1 s1 → Q .next s') :
    wpAny (model Challenge.rw_pq0456_01.row.prog w) A (execs (fBody 7 0) env) Q E s := by
  revert X
  k_fill
  intro X
  dsimp only [fBody, fStmt, nthS, hdS, tlS, fnBody, clsBody, Challenge.pw_pq0456_01]
  refine ini_ev I S (e1 _ _) (by k_is) (by exact Nat.le_of_ble_eq_true rfl) (by rfl) fun s1 S => ?_
  refine ini_ev I S (e2 _ _) (by k_is) (by exact Nat.le_of_ble_eq_true rfl) (by rfl) fun s1 S => ?_
  refine ini_ev I S (e3 _ _) (by k_is) (by exact Nat.le_of_ble_eq_true rfl) (by rfl) fun s1 S => ?_
  refine ini_ev I S (e4 _ _) (by k_is) (by exact Nat.le_of_ble_eq_true rfl) (by rfl) fun s1 S => ?_
  refine ini_ev I S (e5 _ _) (by k_is) (by exact Nat.le_of_ble_eq_true rfl) (by rfl) fun s1 S => ?_
  refine ini_int I S (by k_is) (by exact Nat.le_of_ble_eq_true rfl) (by rfl) fun s1 wid S => ?_
  refine ini_ev I S ev_bool (by k_is) (by exact Nat.le_of_ble_eq_true rfl) (by rfl) fun s1 S => ?_
  refine ini_list I S (by k_is) (by exact Nat.le_of_ble_eq_true rfl) (by rfl) fun s1 p1 h1 S => ?_
  refine ini_list I S (by k_is) (by exact Nat.le_of_ble_eq_true rfl) (by rfl) fun s1 q1 h2 S => ?_
  refine ini_ev I S ev_none (by k_is) (by exact Nat.le_of_ble_eq_true rfl) (by rfl) fun s1 S => ?_
  refine ini_ev I S ev_none (by k_is) (by exact Nat.le_of_ble_eq_true rfl) (by rfl) fun s1 S => ?_
  refine ini_ev I S ev_none (by k_is) (by exact Nat.le_of_ble_eq_true rfl) (by rfl) fun s1 S => ?_
  refine ini_neg I S (by k_is) (by exact Nat.le_of_ble_eq_true rfl) (by rfl) fun s1 dis S => ?_
  refine ini_ev I S ev_bool (by k_is) (by exact Nat.le_of_ble_eq_true rfl) (by rfl) fun s1 S => ?_
  refine wpAny_execs_nil ?_
  cases S with
  | mk o F K N _ _ =>
    obtain ⟨t9, e9⟩ := K.toks 0
    rw [e9] at N
    exact ret _ p1 q1 t9 _ _ _ o F (is_rot3 N) (h1 _ (.head _)) (h2 _ (.head _))
theorem rt_mk {w : World} {mean : ExcName → Option Value} {mg mb : Str → Option Value} {dp un : Nat} {gd : Option (List Code)} {cn : Str} {cs : Scope} {a : Addr} {ccd : Value} {cl : List (Str × Addr)} {outer : List Env} {A₀ : Around} {base h₀ : Heap} {L : Addr} {m : Str → Option Value} {led : Led} {s : Shared}
    {Q E : Value → Shared → Prop} (B : Below A₀ base outer h₀) (F : Fr h₀ L s.heap m) (X : (K0 w.params).In h₀) (N : News h₀ L s.heap led) (T : TT mean mg mb h₀) (hk : cs.kind = .function) (hd : dp < 500) (hu : un < 3000)
    {num path isf aut at' : Value}
    (ret : ∀ s1 p1 x' d' h' tk' (t' : Nat → Tok) (wid dis : Value) (n' : Nat), Fr h₀ L h' m → News h₀ L h' ((s1, listOf #[] 0) :: (p1, listOf #[] 0) :: (x', instObj 155 d') :: (d', dictOf (routineEs w.params t' num path isf aut at' wid (.bool false) (.ref p1) (.ref s1) .none .none .none dis (.bool false)) n') :: led) →
      AllLt d' led → @LT.lt Nat _ d' x' → @LT.lt Nat _ x' p1 → @LT.lt Nat _ p1 s1 → Q (.ref x') { s with heap := h', toks := tk' }) :
    wpAny (model Challenge.rw_pq0456_01.row.prog w) (ktrTop dp un gd cn cs L a ccd cl outer) (call (.ref 155) [num, path, isf, aut, at']) Q E s := by
  revert B F X N T
  k_fill
  intro B F X N T
  have o9 := On.refl s
  refine call_cls (by k_asm) (by k_asm) (by k_asm) (by k_is) (by k_is) (by k_is) ?_
  intro x' d' h' F' N' l1 l2
  replace l1 := allLt_of l1
  k_lt2 l2
  clear F N
  k_dflt (refine code_def (by k_asm) (by k_asm) (by k_asm) (by k_asm) (by k_asm) (by exact rfl) (by exact rfl) (by first | assumption | exact rfl) (by k_is) (by k_is) (by k_room) (by exact BindsTo.of_eq rfl) (by exact locs rfl) ?_ (by exact rfl) (by exact rfl) (by exact rfl) (by decide))
  intro g' L' h' FG' F' N' B' X' T'
  (try k_lift B')
  (try k_fold)
  clear B T
  obtain ⟨m9, F9, e1, e2, e3, e4, e5, e6⟩ : ∃ m9, Fr g' L' h' m9 ∧ m9 "self" = some (.ref x') ∧ m9 "number" = some num ∧ m9 "path" = some path ∧ m9 "is_function" = some isf ∧ m9 "automatic" = some aut ∧ m9 "at" = some at' := ⟨_, F', rfl, rfl, rfl, rfl, rfl, rfl⟩
  clear F'
  refine anew (s₀ := s) ⟨rfl, rfl, rfl⟩ F9 N' (fun s9 o9 F9 N9 => ?_)
  refine rt_body (s₀ := s) (by assumption) ⟨by assumption, Top.nolimit (by assumption), fun led p => ev_name e1, by k_is, by k_is, by k_is⟩ (.mk o9 F9 KV.nil (is_swap N9) (.head _) (fun p hp => (List.mem_cons.mp hp).elim (fun e => e ▸ Nat.ne_of_gt l2) fun hp => Nat.ne_of_lt (allLt_mem l1 p hp))) (fun led p => ev_name e2) (fun led p => ev_name e3) (fun led p => ev_name e4) (fun led p => ev_name e5) (fun led p => ev_name e6) fun s' p1 s1 t' wid dis n' o F N h1 h2 => ?_
  k_steps
  exact On.out (Q _) o (ret _ _ _ _ _ _ t' _ _ _ (by k_asm) (by assumption) l1 l2 h1 h2)
theorem ds_add {w : World} {mean : ExcName → Option Value} {mg mb : Str → Option Value} {dp un : Nat} {gd : Option (List Code)} {cn : Str} {cs : Scope} {a : Addr} {ccd : Value} {cl : List (Str × Addr)} {outer : List Env} {A₀ : Around} {base h₀ : Heap} {L : Addr} {m : Str → Option Value} {led : Led} {s : Shared}
    {Q E : Value → Shared → Prop} (B : Below A₀ base outer h₀) (F : Fr h₀ L s.heap m) (X : (K0 w.params).In h₀) (N : News h₀ L s.heap led) (T : TT mean mg mb h₀) (hk : cs.kind = .function) (hd : dp < 400) (hu : un < 2000)
    {g gdd rl : Addr} {tg : Nat → Tok} {dsg1 dsg2 dsg3 dsg4 dsg5 slv tpp po mk ne bp : Value} {ng : Nat} (mg' : (g, instObj 218 gdd) ∈ led) (mgd : (gdd, dictOf (designEs w.params tg dsg1 dsg2 dsg3 dsg4 dsg5 (.ref rl) slv tpp po mk ne bp) ng) ∈ led)
    {rts : List Value} {nr : Nat} (mrl : (rl, listOf rts.toArray nr) ∈ led) {gl : Value → Led} (UU : ∀ v, Upd rl (listOf rts.toArray nr) (listOf (rts ++ [v]).toArray (nr + 1)) led (gl v)) (hz : rts.length ≤ 100)
    {path isf aut at' : Value}
    (ret : ∀ s1 p1 x' d' h' tk' (t' : Nat → Tok) (tn : Tok) (wid dis : Value) (n' : Nat), Fr h₀ L h' m → News h₀ L h' ((s1, listOf #[] 0) :: (p1, listOf #[] 0) :: (x', instObj 155 d') :: (d', dictOf (routineEs w.params t' (.int (rts.length : Int) tn) path isf aut at' wid (.bool false) (.ref p1) (.ref s1) .none .none .none dis (.bool false)) n') :: gl (.ref x')) →
      AllLt d' led → @LT.lt Nat _ d' x' → @LT.lt Nat _ x' p1 → @LT.lt Nat _ p1 s1 → Q (.ref x') { s with heap := h', toks := tk' }) :
    wpAny (model Challenge.rw_pq0456_01.row.prog w) (ktrTop dp un gd cn cs L a ccd cl outer) (call (.ref 194) [.ref g, path, isf, aut, at']) Q E s := by
  revert B F X N T
  k_fill
  intro B F X N T
  have o9 := On.refl s
  k_with "call ref" => (k_here; (with_reducible show wpAny _ _ (call (Value.ref 155) _) _ _ _); k_dflt (refine rt_mk (by k_asm) (by k_asm) (by k_asm) (by k_asm) (by k_asm) (by rfl) (by ktr_room) (by ktr_units) (fun s1 p1 x' d' h' tk' t' wid dis n' F' N' l1 l2 l3 l4 => ?_)); (try k_sweep))
  k_with "G upd" => exact Upd.tail (Nat.ne_of_gt (Nat.lt_trans (Nat.lt_trans (Nat.lt_trans (ltm l1 mrl) l2) l3) l4)) (Upd.tail (Nat.ne_of_gt (Nat.lt_trans (Nat.lt_trans (ltm l1 mrl) l2) l3)) (Upd.tail (Nat.ne_of_gt (Nat.lt_trans (ltm l1 mrl) l2)) (Upd.tail (Nat.ne_of_gt (ltm l1 mrl)) (UU _))))
  refine wpAny_call ?_
  k_dflt (refine code_def (by k_asm) (by k_asm) (by k_asm) (by k_asm) (by k_asm) (by exact rfl) (by exact rfl) (by first | assumption | exact rfl) (by k_is) (by k_is) (by k_room) (by exact BindsTo.of_eq rfl) (by exact locs rfl) ?_ (by exact rfl) (by exact rfl) (by exact rfl) (by decide))
  intro g' L' h' FG' F' N' B' X' T'
  dsimp only [fBody, fStmt, nthS, hdS, tlS, fnBody, clsBody, Challenge.pw_pq0456_01]
  (try k_lift B')
  (try k_fold)
  clear B F T N
  (rename Fr _ _ _ _ => F8)
  obtain ⟨m9, F9, eg0, eg1, eg2, eg3, eg4⟩ := fr_gen (fun m => m "self" = some (.ref g) ∧ m "path" = some (path) ∧ m "is_function" = some (isf) ∧ m "automatic" = some (aut) ∧ m "at" = some (at')) F8 ⟨rfl, rfl, rfl, rfl, rfl⟩
  clear F8
  refine toks_any (s := s) fun k9 => ?_
  k_steps
  exact On.out (Q _) (by walk_at "G on") (ret _ _ _ _ _ _ t' _ _ _ _ (by k_asm) (by k_asm) l1 l2 l3 l4)
theorem lines_k3 : True := by
  k_with_none
  k_with "G val" => first | exact rfl | assumption
  k_with "G isb" => first | exact isSome_some (by assumption) | exact isSome_none (by assumption) | exact isSome_none rfl | exact isSome_some rfl
  k_with "Ev Name" => (fail_if_success plain_pass); k_dflt (exact ev_name (by walk_at "G val"))
  k_with "Ev Constant" => (fail_if_success plain_pass); k_dflt (first | exact ev_none | exact ev_bool)
  k_with "Ev Attribute" => (fail_if_success plain_pass); k_dflt (exact ev_attr (by walk1) (by k_asm) (by k_mem) (by k_mem) (by k_is) (by k_is) (by k_is) (by k_is) (by walk_at "G get") (by first | assumption | k_handed) (by with_unfolding_all rfl))
  k_with "Ev Subscript" => (fail_if_success plain_pass); k_dflt (first
    | exact ev_item_tup (by walk1) (by k_mem) (by decide) (by decide) (by rfl) (by rfl)
    | exact ev_item_lit (by walk1) (by k_mem) (by decide) (by decide) (by first | rfl | assumption)
    | exact ev_item_dict (by walk1) (by walk1) (by k_mem) (by assumption) (by assumption) (by with_unfolding_all rfl)
    | exact ev_item_list (by walk1) (by walk1) (by k_mem) (by omega) (by omega) (by assumption) (by with_unfolding_all rfl))
  k_with "Tw BoolOp" => (fail_if_success plain_pass); k_dflt (first
    | exact tw_and_nil
    | exact tw_or_nil
    | exact tw_and (by walk1) (by walk1)
    | exact tw_or (by walk1) (by walk1))
  k_with "AndK true" => (fail_if_success plain_pass); k_dflt (exact AndK.yes (by walk1))
  k_with "AndK false" => (fail_if_success plain_pass); exact AndK.no
  k_with "OrK false" => (fail_if_success plain_pass); k_dflt (exact OrK.no (by walk1))
  k_with "OrK true" => (fail_if_success plain_pass); exact OrK.yes
  k_with "G eqs" => first | exact (rfl : (_ : Bool) = true) | exact (rfl : (_ : Bool) = false) | assumption
  k_with "Te Compare" => (fail_if_success plain_pass); k_dflt (first
    | exact te_eq_str (by walk1) (by walk_at "G eqs")
    | exact te_none_yes (by walk1)
    | exact te_none_no (by walk1)
    | exact te_some_yes (by walk1)
    | exact te_some_no (by walk1)
    | exact te_in_yes (by walk1) (by walk1) (by k_mem) (by assumption) (by assumption) (by walk_at "G val") (by with_unfolding_all rfl)
    | exact te_in_no (by walk1) (by walk1) (by k_mem) (by assumption) (by assumption) (by walk_at "G val") (by with_unfolding_all rfl)
    | exact te_notin_yes (by walk1) (by walk1) (by k_mem) (by assumption) (by assumption) (by walk_at "G val") (by with_unfolding_all rfl)
    | exact te_notin_no (by walk1) (by walk1) (by k_mem) (by assumption) (by assumption) (by walk_at "G val") (by with_unfolding_all rfl))
  k_with "Te BoolOp" => (fail_if_success plain_pass); k_dflt (exact te_tw (by walk1))
  k_with "Te Name" => (fail_if_success plain_pass); k_dflt (exact te_bool (by walk1) (by with_unfolding_all rfl))
  k_with "eval Name" => (fail_if_success plain_pass); k_dflt (refine ev_use (by k_asm) (by k_asm) (by walk1) (fun k' => ?_))
  k_with "eval Attribute" => (fail_if_success plain_pass); k_dflt (refine ev_use (by k_asm) (by k_asm) (by walk1) (fun k' => ?_))
  k_with "eval Attribute Name" => (fail_if_success plain_pass); k_dflt (refine ev_use (by k_asm) (by k_asm) (by walk1) (fun k' => ?_))
  k_with "isTrue Compare" => (fail_if_success plain_pass); k_dflt (refine te_use (by k_asm) (by k_asm) (by walk1) (fun k' => ?_))
  k_with "G on" => exact On.step (by with_reducible assumption) (by rfl) (by rfl) (by rfl)
  k_with "execs cons" => (fail_if_success plain_pass); (k_dflt (refine anew (by walk_at "G on") (by k_asm) (by k_asm) (fun s9 o9 F9 N9 => ?_))); (try k_sweep); k_dflt (first
    | ((with_reducible show wpAny _ _ (execs (Stmt.Assign [PySem.Expr.Attribute _ _ _] _ _ :: _) _) _ _ _); (refine s_attr o9 F9 N9 (by walk1) (by walk1) (by assumption) (by k_mem) (by k_mem) (by k_is) (by k_is) (by k_is) (by k_is) (by walk_at "G keys") (by exact Nat.le_of_ble_eq_true rfl) (by intro es9 n9; walk_at "G updA") (fun s9 es9 n9 K9 o9 F9 N9 => ?_)); (try k_sweep))
    | ((with_reducible show wpAny _ _ (execs (Stmt.Assign [PySem.Expr.Name _ _] _ _ :: _) _) _ _ _); (refine s_assign F9 N9 (by walk1) (fun h' k' F' N' => ?_)); (try k_sweep))
    | ((with_reducible show wpAny _ _ (execs (Stmt.If _ _ _ _ :: _) _) _ _ _); refine s_if F9 N9 (by walk1) ?_)
    | ((with_reducible show wpAny _ _ (execs (Stmt.Return (some _) _ :: _) _) _ _ _); refine s_return F9 N9 (by walk1) (fun k' => ?_))
    | refine stmt_one ?_
    | refine stmt_cut (fun K hK => ?_))
  k_with "IfK true" => (fail_if_success plain_pass); first | with_reducible refine IfK.one (fun k' => ?_) | with_reducible refine IfK.tt (fun K hK k' => ?_)
  k_with "IfK false" => (fail_if_success plain_pass); first | with_reducible refine IfK.skip (fun k' => ?_) | with_reducible refine IfK.other (fun k' => ?_) | with_reducible refine IfK.ff (fun K hK k' => ?_)
  k_with "G back" => first | with_reducible refine Sq.next (by with_reducible assumption) _ ?_ | with_reducible refine Sq.ret (by with_reducible assumption) _ _ ?_ | with_reducible refine Br.t (by with_reducible assumption) _ ?_ | with_reducible refine Br.f (by with_reducible assumption) _ ?_
  k_with "call ref" => (k_here; (with_reducible show wpAny _ _ (call (Value.ref 187) _) _ _ _); k_dflt (refine wpAny_call ?_; k_dflt ktr_enter); dsimp only [fBody, fStmt, nthS, hdS, tlS, fnBody, clsBody, Challenge.pw_pq0456_01])
  k_with "call builtin:list.append" => (k_here; (with_reducible show wpAny _ _ (call (Value.builtin _) [Value.ref _, _]) _ _ _); k_dflt (refine list_push (by k_asm) (by k_asm) (by walk_at "G upd") (by first | omega | (simp only [List.length_append, List.length_cons, List.length_nil]; omega)) ?_); intro h' F' N'; (try k_sweep))
  k_with "call builtin:len" => (k_here; (with_reducible show wpAny _ _ (call (Value.builtin "len") [Value.ref _]) _ _ _); k_dflt (refine list_len (by k_asm) (by k_mem) (by first | omega | (simp only [List.length_append, List.length_cons, List.length_nil]; omega)) ?_))
  k_with "setItem ref str" => (k_here; k_dflt (refine ent_set (by k_asm) (by k_asm) (by walk_at "G updF") (by assumption) (by first | omega | exact Nat.le_of_ble_eq_true rfl) ?_); intro h' o' F' N' hd'; (try dsimp only at N'))
  k_with "G keys" => first | with_reducible assumption | exact KV.nil
  k_with "G ne2" => first | exact Nat.ne_of_gt (by with_reducible assumption) | exact Nat.ne_of_gt (And.left (by with_reducible assumption)) | exact Nat.ne_of_gt (And.left (And.right (by with_reducible assumption))) | exact Nat.ne_of_gt (And.left (And.right (And.right (by with_reducible assumption)))) | k_ne
  k_with "G updA" => first | exact Upd.head (by k_all) | exact Upd.tail (by walk_at "G ne2") (by walk_at "G updA")
  k_with "setAttr ref" => (k_dflt (refine set_kv (by walk_at "G on") (by k_asm) (by k_asm) (by assumption) (by k_mem) (by k_mem) (by k_is) (by k_is) (by k_is) (by k_is) (by walk_at "G keys") (by exact Nat.le_of_ble_eq_true rfl) (by intro es9 n9; walk_at "G updA") (fun s9 es9 n9 K9 o9 F9 N9 => ?_)); (try k_sweep))
  k_with "G get" => first | k_get | exact KV.get (by with_reducible assumption) (by rfl)
  k_with "G mem2" => first | exact mg2 _ | exact mgd2 _ | exact msl2 _
  k_with "G all2" => exact (fun p hp => Nat.ne_of_lt (allLt_mem (l12 _) p hp))
  k_with "G ne" => first | exact Nat.ne_of_gt (ltm (by with_reducible assumption) (by with_reducible assumption)) | exact Nat.ne_of_gt (ltm2 (by with_reducible assumption) (by with_reducible assumption) (by with_reducible assumption)) | exact Nat.ne_of_gt (ltm (And.right (And.right (by with_reducible assumption))) (by with_reducible assumption))
  k_with "G upd" => first | k_upd | with_reducible assumption | exact UU _ | exact Upd.tail (by walk_at "G ne") (by walk_at "G upd")
  k_with "G updF" => first | with_reducible assumption | exact UF | k_updF
  trivial
theorem ds_drop {h₀ h : Heap} {L : Addr} {p1 p2 p3 p4 p5 : Addr × Obj} {led : Led} (N : News h₀ L h (p1 :: p2 :: p3 :: p4 :: p5 :: led)) : News h₀ L h (p1 :: p2 :: p3 :: p4 :: led) :=
  News.sub N fun p hp => (List.mem_append.mp (show p ∈ [p1, p2, p3, p4] ++ led from hp)).elim (fun h => List.mem_append_left (p5 :: led) h) fun h => List.mem_append_right [p1, p2, p3, p4] (.tail _ h)
theorem ds_body {w : World} {h₀ : Heap} {L : Addr} {m : Str → Option Value} {env : Env} {x d : Addr} {s₀ s : Shared} {led : Led} {A : Around} {Q : Flow → Shared → Prop} {E : Value → Shared → Prop} (I : IC w h₀ L m env x 218 d) (S : IS w h₀ L m x 218 d s₀ [] led s)
    (ret : ∀ s' rl sl (t' : Nat → Tok) (v0 v1 v2 v3 v4 v7 v8 v10 v11 : Value) (n' : Nat), On s₀ s' → Fr h₀ L s'.heap m → News h₀ L s'.heap ((sl, listOf ([] : List Value).toArray 0) :: (rl, listOf ([] : List Value).toArray 0) :: (x, instObj 218 d) :: (d, dictOf (designEs w.params t' v0 v1 v2 v3 v4 (.ref rl) (.ref sl) v7 v8 .none v10 v11) n') :: led) →
      @LT.lt Nat _ x rl → @LT.lt Nat _ rl sl → Q .next s') :
    wpAny (model Challenge.rw_pq0456_01.row.prog w) A (execs (fBody 8 0) env) Q E s := by
  have hx := S.hx
  have X := I.X
  revert X
  k_fill
  intro X
  dsimp only [fBody, fStmt, nthS, hdS, tlS, fnBody, clsBody, Challenge.pw_pq0456_01]
  refine ini_list I S (by k_is) (by exact Nat.le_of_ble_eq_true rfl) (by rfl) fun s1 l1 h1 S => ?_
  replace S := S.drop hx
  refine ini_list I S (by k_is) (by exact Nat.le_of_ble_eq_true rfl) (by rfl) fun s1 l1 h1 S => ?_
  replace S := S.drop hx
  refine ini_list I S (by k_is) (by exact Nat.le_of_ble_eq_true rfl) (by rfl) fun s1 l1 h1 S => ?_
  replace S := S.drop hx
  refine ini_list I S (by k_is) (by exact Nat.le_of_ble_eq_true rfl) (by rfl) fun s1 l1 h1 S => ?_
  replace S := S.drop hx
  refine ini_list I S (by k_is) (by exact Nat.le_of_ble_eq_true rfl) (by rfl) fun s1 l1 h1 S => ?_
  replace S := S.drop hx
  refine ini_list I S (by k_is) (by exact Nat.le_of_ble_eq_true rfl) (by rfl) fun s1 rl hr S => ?_
  refine ini_list I S (by k_is) (by exact Nat.le_of_ble_eq_true rfl) (by rfl) fun s1 sl hl S => ?_
  have hx2 : (x, instObj 218 d) ∈ (sl, listOf ([] : List Value).toArray 0) :: (rl, listOf ([] : List Value).toArray 0) :: led := .tail _ (.tail _ hx)
  refine ini_list I S (by k_is) (by exact Nat.le_of_ble_eq_true rfl) (by rfl) fun s1 l1 h1 S => ?_
  replace S := S.drop hx2
  refine ini_list I S (by k_is) (by exact Nat.le_of_ble_eq_true rfl) (by rfl) fun s1 l1 h1 S => ?_
  replace S := S.drop hx2
  refine ini_ev I S ev_none (by k_is) (by exact Nat.le_of_ble_eq_true rfl) (by rfl) fun s1 S => ?_
  refine ini_int I S (by k_is) (by exact Nat.le_of_ble_eq_true rfl) (by rfl) fun s1 t1 S => ?_
  refine ini_dict I S (by k_is) (by exact Nat.le_of_ble_eq_true rfl) (by rfl) fun s1 l1 o1 h1 lo hd S => ?_
  replace S := S.drop hx2
  refine wpAny_execs_nil ?_
  cases S with
  | mk o F K N _ _ =>
    obtain ⟨t9, e9⟩ := K.toks 0
    rw [e9] at N
    exact ret _ rl sl t9 _ _ _ _ _ _ _ _ _ _ o F (ds_perm N hx) (hr _ hx) (hl _ (.head _))
theorem ds_mk {w : World} {mean : ExcName → Option Value} {mg mb : Str → Option Value} {dp un : Nat} {gd : Option (List Code)} {cn : Str} {cs : Scope} {a : Addr} {ccd : Value} {cl : List (Str × Addr)} {outer : List Env} {A₀ : Around} {base h₀ : Heap} {L : Addr} {m : Str → Option Value} {led : Led} {s : Shared}
    {Q E : Value → Shared → Prop} (B : Below A₀ base outer h₀) (F : Fr h₀ L s.heap m) (X : (K0 w.params).In h₀) (N : News h₀ L s.heap led) (T : TT mean mg mb h₀) (hk : cs.kind = .function) (hd : dp < 400) (hu : un < 2000)
    (ret : ∀ g gdd rl sl h' tk' (t' : Nat → Tok) (v0 v1 v2 v3 v4 v7 v8 v10 v11 : Value) (n' : Nat), Fr h₀ L h' m → News h₀ L h' ((sl, listOf #[] 0) :: (rl, listOf #[] 0) :: (g, instObj 218 gdd) :: (gdd, dictOf (designEs w.params t' v0 v1 v2 v3 v4 (.ref rl) (.ref sl) v7 v8 .none v10 v11) n') :: led) →
      AllLt gdd led → @LT.lt Nat _ gdd g → @LT.lt Nat _ g rl → @LT.lt Nat _ rl sl → Q (.ref g) { s with heap := h', toks := tk' }) :
    wpAny (model Challenge.rw_pq0456_01.row.prog w) (ktrTop dp un gd cn cs L a ccd cl outer) (call (.ref 218) []) Q E s := by
  revert B F X N T
  k_fill
  intro B F X N T
  have o9 := On.refl s
  refine call_cls (by k_asm) (by k_asm) (by k_asm) (by k_is) (by k_is) (by k_is) ?_
  intro x' d' h' F' N' l1 l2
  replace l1 := allLt_of l1
  k_lt2 l2
  clear F N
  k_dflt (refine code_def (by k_asm) (by k_asm) (by k_asm) (by k_asm) (by k_asm) (by exact rfl) (by exact rfl) (by first | assumption | exact rfl) (by k_is) (by k_is) (by k_room) (by exact BindsTo.of_eq rfl) (by exact locs rfl) ?_ (by exact rfl) (by exact rfl) (by exact rfl) (by decide))
  intro g' L' h' FG' F' N' B' X' T'
  (try k_lift B')
  (try k_fold)
  clear B T
  obtain ⟨m9, F9, e9⟩ : ∃ m9, Fr g' L' h' m9 ∧ m9 "self" = some (.ref x') := ⟨_, F', rfl⟩
  clear F'
  refine anew (s₀ := s) ⟨rfl, rfl, rfl⟩ F9 N' (fun s9 o9 F9 N9 => ?_)
  refine ds_body (s₀ := s) ⟨by assumption, Top.nolimit (by assumption), fun led p => ev_name e9, by k_is, by k_is, by k_is⟩ (.mk o9 F9 KV.nil (is_swap N9) (.head _) (fun p hp => (List.mem_cons.mp hp).elim (fun e => e ▸ Nat.ne_of_gt l2) fun hp => Nat.ne_of_lt (allLt_mem l1 p hp))) fun s' rl sl t' v0 v1 v2 v3 v4 v7 v8 v10 v11 n' o F N h1 h2 => ?_
  k_steps
  exact On.out (Q _) o (ret _ _ _ _ _ _ t' _ _ _ _ _ _ _ _ _ _ (by k_asm) (ds_drop (by assumption)) l1 l2 h1 h2)
theorem lines_u : True := by
  k_with_none
  k_with "G isb" => first | exact isSome_some (by assumption) | exact isSome_none (by assumption) | exact isSome_none rfl | exact isSome_some rfl
  k_with "Ev Name" => (fail_if_success plain_pass); k_dflt (exact ev_name (by walk_at "G val"))
  k_with "Ev Constant" => (fail_if_success plain_pass); k_dflt (first | exact ev_none | exact ev_bool)
  k_with "Ev Attribute" => (fail_if_success plain_pass); k_dflt (exact ev_attr (by walk1) (by k_asm) (by k_mem) (by k_mem) (by k_is) (by k_is) (by k_is) (by k_is) (by walk_at "G get") (by first | assumption | k_handed) (by with_unfolding_all rfl))
  k_with "Ev Subscript" => (fail_if_success plain_pass); k_dflt (first
    | exact ev_item_tup (by walk1) (by k_mem) (by decide) (by decide) (by rfl) (by rfl)
    | exact ev_item_lit (by walk1) (by k_mem) (by decide) (by decide) (by first | rfl | assumption)
    | exact ev_item_dict (by walk1) (by walk1) (by k_mem) (by assumption) (by assumption) (by with_unfolding_all rfl)
    | exact ev_item_list (by walk1) (by walk1) (by k_mem) (by omega) (by omega) (by assumption) (by with_unfolding_all rfl))
  k_with "Tw BoolOp" => (fail_if_success plain_pass); k_dflt (first
    | exact tw_and_nil
    | exact tw_or_nil
    | exact tw_and (by walk1) (by walk1)
    | exact tw_or (by walk1) (by walk1))
  k_with "AndK true" => (fail_if_success plain_pass); k_dflt (exact AndK.yes (by walk1))
  k_with "AndK false" => (fail_if_success plain_pass); exact AndK.no
  k_with "OrK false" => (fail_if_success plain_pass); k_dflt (exact OrK.no (by walk1))
  k_with "OrK true" => (fail_if_success plain_pass); exact OrK.yes
  k_with "G eqs" => first | exact (rfl : (_ : Bool) = true) | exact (rfl : (_ : Bool) = false) | assumption
  k_with "Te Compare" => (fail_if_success plain_pass); k_dflt (first
    | exact te_eq_str (by walk1) (by walk_at "G eqs")
    | exact te_none_yes (by walk1)
    | exact te_none_no (by walk1)
    | exact te_some_yes (by walk1)
    | exact te_some_no (by walk1)
    | exact te_in_yes (by walk1) (by walk1) (by k_mem) (by assumption) (by assumption) (by walk_at "G val") (by with_unfolding_all rfl)
    | exact te_in_no (by walk1) (by walk1) (by k_mem) (by assumption) (by assumption) (by walk_at "G val") (by with_unfolding_all rfl)
    | exact te_notin_yes (by walk1) (by walk1) (by k_mem) (by assumption) (by assumption) (by walk_at "G val") (by with_unfolding_all rfl)
    | exact te_notin_no (by walk1) (by walk1) (by k_mem) (by assumption) (by assumption) (by walk_at "G val") (by with_unfolding_all rfl))
  k_with "Te BoolOp" => (fail_if_success plain_pass); k_dflt (exact te_tw (by walk1))
  k_with "Te Name" => (fail_if_success plain_pass); k_dflt (exact te_bool (by walk1) (by with_unfolding_all rfl))
  k_with "eval Name" => (fail_if_success plain_pass); k_dflt (refine ev_use (by k_asm) (by k_asm) (by walk1) (fun k' => ?_))
  k_with "eval Attribute" => (fail_if_success plain_pass); k_dflt (refine ev_use (by k_asm) (by k_asm) (by walk1) (fun k' => ?_))
  k_with "eval Attribute Name" => (fail_if_success plain_pass); k_dflt (refine ev_use (by k_asm) (by k_asm) (by walk1) (fun k' => ?_))
  k_with "isTrue Compare" => (fail_if_success plain_pass); k_dflt (refine te_use (by k_asm) (by k_asm) (by walk1) (fun k' => ?_))
  k_with "G on" => exact On.step (by with_reducible assumption) (by rfl) (by rfl) (by rfl)
  k_with "execs cons" => (fail_if_success plain_pass); (k_dflt (refine anew (by walk_at "G on") (by k_asm) (by k_asm) (fun s9 o9 F9 N9 => ?_))); (try k_sweep); k_dflt (first
    | ((with_reducible show wpAny _ _ (execs (Stmt.Assign [PySem.Expr.Attribute _ _ _] _ _ :: _) _) _ _ _); (refine s_attr o9 F9 N9 (by walk1) (by walk1) (by assumption) (by k_mem) (by k_mem) (by k_is) (by k_is) (by k_is) (by k_is) (by walk_at "G keys") (by exact Nat.le_of_ble_eq_true rfl) (by intro es9 n9; walk_at "G updA") (fun s9 es9 n9 K9 o9 F9 N9 => ?_)); (try k_sweep))
    | ((with_reducible show wpAny _ _ (execs (Stmt.Assign [PySem.Expr.Name _ _] _ _ :: _) _) _ _ _); (refine s_assign F9 N9 (by walk1) (fun h' k' F' N' => ?_)); (try k_sweep))
    | ((with_reducible show wpAny _ _ (execs (Stmt.If _ _ _ _ :: _) _) _ _ _); refine s_if F9 N9 (by walk1) ?_)
    | ((with_reducible show wpAny _ _ (execs (Stmt.Return (some _) _ :: _) _) _ _ _); refine s_return F9 N9 (by walk1) (fun k' => ?_))
    | refine stmt_one ?_
    | refine stmt_cut (fun K hK => ?_))
  k_with "IfK true" => (fail_if_success plain_pass); first | with_reducible refine IfK.one (fun k' => ?_) | with_reducible refine IfK.tt (fun K hK k' => ?_)
  k_with "IfK false" => (fail_if_success plain_pass); first | with_reducible refine IfK.skip (fun k' => ?_) | with_reducible refine IfK.other (fun k' => ?_) | with_reducible refine IfK.ff (fun K hK k' => ?_)
  k_with "G back" => first | with_reducible refine Sq.next (by with_reducible assumption) _ ?_ | with_reducible refine Sq.ret (by with_reducible assumption) _ _ ?_ | with_reducible refine Br.t (by with_reducible assumption) _ ?_ | with_reducible refine Br.f (by with_reducible assumption) _ ?_
  k_with "call builtin:len" => (k_here; (with_reducible show wpAny _ _ (call (Value.builtin "len") [Value.ref _]) _ _ _); k_dflt (refine list_len (by k_asm) (by k_mem) (by first | omega | (simp only [List.length_append, List.length_cons, List.length_nil]; omega)) ?_))
  k_with "G keys" => first | with_reducible assumption | exact KV.nil
  k_with "G get" => first | k_get | exact KV.get (by with_reducible assumption) (by rfl)
  k_with "G val" => first | exact rfl | assumption | walk_at "G var"
  k_with "eval Attribute Subscript" => (fail_if_success plain_pass); k_dflt (refine ev_use (by k_asm) (by k_asm) (by walk1) (fun k' => ?_))
  k_with "G var" => first | exact V.src | exact V.des | exact V.sps | exact V.tbl | exact V.at' | exact V.abv | exact R.nam | exact R.rou | exact hro | exact hfo | exact hbl | exact hsrc
  k_with "setItem ref int" => (k_here; k_dflt (refine set_mixed2 (by k_asm) (by k_asm) (by walk_at "G upd") (by exact rfl) (by decide) (by decide) (fun h9 F9 N9 => ?_)); (try k_sweep))
  k_with "call builtin:list.pop" => (k_here; k_dflt (refine pop_ints (by k_asm) (by k_asm) (by k_asm) (by k_asm) (by walk_at "G upd") (by omega) (fun h9 i9 t9 F9 N9 hi9 => ?_)); (try k_sweep))
  k_with "compareOp NotEq ref ref" => (k_here; (with_reducible show wpAny _ _ (compareOp CmpOp.NotEq (Value.ref _) (Value.ref _)) _ _ _); k_dflt (refine ne_intsK (by is_list) hi (by is_list) (by l_intsC) hA ?_))
  k_with "G upd" => first | exact Upd.head hl | exact Upd.tail hlq (Upd.head hq) | exact Upd.tail (Nat.ne_of_gt (And.left (And.right (by with_reducible assumption)))) (Upd.tail hlq (Upd.head hq)) | exact Upd.tail (Nat.ne_of_gt (And.left (by with_reducible assumption))) (Upd.head hl) | exact Upd.tail (Nat.ne_of_gt (And.left (by with_reducible assumption))) (Upd.head (offl hl)) | k_upd
  trivial

theorem set_mixed2 {prog : Program} {w : World} {A : Around} {E : Value → Shared → Prop} {s : Shared} {h₀ : Heap} {L D : Addr} {m : Str → Option Value} {news news' : Led} {its its' : List Value} {n : Nat} {k : Int} {t : Tok} {v : Value} {Q : Unit → Shared → Prop} (F : Fr h₀ L s.heap m) (N : News h₀ L s.heap news) (U : Upd D (listOf its.toArray n) (listOf its'.toArray n) news news') (e : ki_setL its k.toNat v = some its')
    (h0 : 0 ≤ k) (hfit : k < 2 ^ 63) (h : ∀ h', Fr h₀ L h' m → News h₀ L h' news' → Q () { s with heap := h' }) :
    wpAny (model prog w) A (setItem (.ref D) (.int k t) v) Q E s := set_mixed F N e U h0 hfit h
theorem offl {l q : Addr} {o1 o2 : Obj} {news : Led} (h : ∀ p ∈ (q, o1) :: news, p.1 ≠ l) : ∀ p ∈ (q, o2) :: news, p.1 ≠ l := by
  intro p hp
  rcases List.mem_cons.mp hp with rfl | hp
  · exact h (q, o1) (.head _)
  · exact h p (.tail _ hp)

theorem tk_0 {w : World} {mean : ExcName → Option Value} {mg mb : Str → Option Value} {A : Around} {h₀ : Heap} {L : Addr} {m : Str → Option Value} {news : Led} {s : Shared} {Q : Flow → Shared → Prop} {E : Value → Shared → Prop} {l q : Addr} {n n2 : Nat} {a b : Int} {ta tb : Tok} {vs : List Value} {ns : List Int} {body rest : List Stmt} {p1 p2 p3 p4 p5 p6 : Pos} {k1 k2 : Nat}
    (F : Fr h₀ L s.heap m) (X : (K0 w.params).In h₀) (N : News h₀ L s.heap ((l, listOf #[.ref q, .int a ta, .int b tb] n) :: (q, listOf vs.toArray n2) :: news)) (T : TT mean mg mb h₀) (hs : m "source" = some (.ref l))
    (tt : ∀ h' tk' (K : Flow → Shared → Prop), Fr h₀ L h' m → News h₀ L h' ((l, listOf #[.ref q, .int a ta, .int b tb] n) :: (q, listOf vs.toArray n2) :: news) → Sq Challenge.rw_pq0456_01.row.prog w A rest (envOf "_law_take" tkScope L 229 (.ref 228)) Q E K → wpAny (model Challenge.rw_pq0456_01.row.prog w) A (execs (body) (envOf "_law_take" tkScope L 229 (.ref 228))) K E { s with heap := h', toks := tk' })
    (ff : ∀ h' tk', Fr h₀ L h' m → News h₀ L h' ((l, listOf #[.ref q, .int a ta, .int b tb] n) :: (q, listOf vs.toArray n2) :: news) → wpAny (model Challenge.rw_pq0456_01.row.prog w) A (execs (rest) (envOf "_law_take" tkScope L 229 (.ref 228))) Q E { s with heap := h', toks := tk' }) :
    wpAny (model Challenge.rw_pq0456_01.row.prog w) A (execs (.If (.Compare (.Subscript (.Name "source" p1) (.Constant (.int 1) k1 p2) p3) [.Eq] [.Constant (.int 0) k2 p4] p5) body [] p6 :: rest) (envOf "_law_take" tkScope L 229 (.ref 228))) Q E s := by
  revert F X N T
  k_fill
  intro F X N T
  have o9 := On.refl s
  k_steps
  all_goals first
    | exact On.out (wpAny _ _ _ _ _) (by walk_at "G on") (tt _ _ _ (by k_asm) (by k_asm) hK)
    | exact On.out (wpAny _ _ _ _ _) (by walk_at "G on") (ff _ _ (by k_asm) (by k_asm))

theorem tk_1 {w : World} {mean : ExcName → Option Value} {mg mb : Str → Option Value} {A : Around} {h₀ : Heap} {L : Addr} {m : Str → Option Value} {news : Led} {s : Shared} {Q : Flow → Shared → Prop} {E : Value → Shared → Prop} {l q : Addr} {n n2 : Nat} {a b : Int} {ta tb : Tok} {vs : List Value} {ns : List Int} {rest : List Stmt}
    (F : Fr h₀ L s.heap m) (X : (K0 w.params).In h₀) (N : News h₀ L s.heap ((l, listOf #[.ref q, .int a ta, .int b tb] n) :: (q, listOf vs.toArray n2) :: news)) (T : TT mean mg mb h₀) (hs : m "source" = some (.ref l)) (hlq : l ≠ q) (hl : ∀ p ∈ (q, listOf vs.toArray n2) :: news, p.1 ≠ l) (hq : ∀ p ∈ news, p.1 ≠ q)
    (ret : ∀ h' tk' b' tb', Fr h₀ L h' m → News h₀ L h' ((l, listOf #[.ref q, .int a ta, .int b' tb'] n) :: (q, listOf vs.toArray n2) :: news) → 0 ≤ b' → b' < 2147483563 → wpAny (model Challenge.rw_pq0456_01.row.prog w) A (execs (rest) (envOf "_law_take" tkScope L 229 (.ref 228))) Q E { s with heap := h', toks := tk' }) :
    wpAny (model Challenge.rw_pq0456_01.row.prog w) A (execs (nthS 0 (ifBody (nthS 0 tkBody)) :: rest) (envOf "_law_take" tkScope L 229 (.ref 228))) Q E s := by
  revert F X N T
  k_fill
  intro F X N T
  have o9 := On.refl s
  dsimp only [tkBody, tkStmt, nthS, hdS, tlS, fnBody, ifBody, Challenge.pw_pq0456_01]
  k_steps
  (rename News h₀ L _ _ => N8)
  (rename Fr h₀ L _ _ => F8)
  exact On.out (wpAny _ _ _ _ _) (by walk_at "G on") (ret _ _ _ _ F8 N8 (fmod_lo _ (by decide)) (fmod_hi _ (by decide)))

theorem tk_2 {w : World} {mean : ExcName → Option Value} {mg mb : Str → Option Value} {A : Around} {h₀ : Heap} {L : Addr} {m : Str → Option Value} {news : Led} {s : Shared} {Q : Flow → Shared → Prop} {E : Value → Shared → Prop} {l q : Addr} {n n2 : Nat} {a b : Int} {ta tb : Tok} {vs : List Value} {ns : List Int} {rest : List Stmt}
    (F : Fr h₀ L s.heap m) (X : (K0 w.params).In h₀) (N : News h₀ L s.heap ((l, listOf #[.ref q, .int a ta, .int b tb] n) :: (q, listOf vs.toArray n2) :: news)) (T : TT mean mg mb h₀) (hs : m "source" = some (.ref l)) (hA : A.units + 64 < cLine) (hi : IntsAre vs ns) (hv : vs.length ≤ 100) (hlq : l ≠ q) (hl : ∀ p ∈ (q, listOf vs.toArray n2) :: news, p.1 ≠ l) (hq : ∀ p ∈ news, p.1 ≠ q)
    (ret : ∀ h' tk' a' ta' vs' ns' n2', Fr h₀ L h' m → News h₀ L h' ((l, listOf #[.ref q, .int a' ta', .int b tb] n) :: (q, listOf vs'.toArray n2') :: news) → IntsAre vs' ns' → vs'.length ≤ 100 → wpAny (model Challenge.rw_pq0456_01.row.prog w) A (execs (rest) (envOf "_law_take" tkScope L 229 (.ref 228))) Q E { s with heap := h', toks := tk' }) :
    wpAny (model Challenge.rw_pq0456_01.row.prog w) A (execs (nthS 1 (ifBody (nthS 0 tkBody)) :: rest) (envOf "_law_take" tkScope L 229 (.ref 228))) Q E s := by
  revert F X N T
  k_fill
  intro F X N T
  have o9 := On.refl s
  dsimp only [tkBody, tkStmt, nthS, hdS, tlS, fnBody, ifBody, Challenge.pw_pq0456_01]
  k_steps
  all_goals (
    (rename News h₀ L _ _ => N8)
    (rename Fr h₀ L _ _ => F8)
    replace N8 := News.sub N8 (fun p hp => List.mem_cons_of_mem _ hp)
    exact On.out (wpAny _ _ _ _ _) (by walk_at "G on") (ret _ _ _ _ _ _ _ F8 N8 (by with_reducible assumption) (by first | with_reducible assumption | (rw [List.length_tail]; omega))))

theorem tk_3 {w : World} {mean : ExcName → Option Value} {mg mb : Str → Option Value} {A : Around} {h₀ : Heap} {L : Addr} {m : Str → Option Value} {news : Led} {s : Shared} {Q : Flow → Shared → Prop} {E : Value → Shared → Prop} {l q : Addr} {n n2 : Nat} {a b : Int} {ta tb : Tok} {vs : List Value} {ns : List Int} {rest : List Stmt}
    (F : Fr h₀ L s.heap m) (X : (K0 w.params).In h₀) (N : News h₀ L s.heap ((l, listOf #[.ref q, .int a ta, .int b tb] n) :: (q, listOf vs.toArray n2) :: news)) (T : TT mean mg mb h₀) (hs : m "source" = some (.ref l)) (hlq : l ≠ q) (hl : ∀ p ∈ (q, listOf vs.toArray n2) :: news, p.1 ≠ l) (hq : ∀ p ∈ news, p.1 ≠ q)
    (ret : ∀ h' tk' a' ta', Fr h₀ L h' m → News h₀ L h' ((l, listOf #[.ref q, .int a' ta', .int b tb] n) :: (q, listOf vs.toArray n2) :: news) → 0 ≤ a' → wpAny (model Challenge.rw_pq0456_01.row.prog w) A (execs (rest) (envOf "_law_take" tkScope L 229 (.ref 228))) Q E { s with heap := h', toks := tk' }) :
    wpAny (model Challenge.rw_pq0456_01.row.prog w) A (execs (nthS 2 (ifBody (nthS 0 tkBody)) :: rest) (envOf "_law_take" tkScope L 229 (.ref 228))) Q E s := by
  revert F X N T
  k_fill
  intro F X N T
  have o9 := On.refl s
  dsimp only [tkBody, tkStmt, nthS, hdS, tlS, fnBody, ifBody, Challenge.pw_pq0456_01]
  k_steps
  all_goals (
    (rename News h₀ L _ _ => N8)
    (rename Fr h₀ L _ _ => F8)
    exact On.out (wpAny _ _ _ _ _) (by walk_at "G on") (ret _ _ _ _ F8 N8 (by first | with_reducible assumption | omega)))

theorem tk_4 {w : World} {mean : ExcName → Option Value} {mg mb : Str → Option Value} {A : Around} {h₀ : Heap} {L : Addr} {m : Str → Option Value} {news : Led} {s : Shared} {Q : Flow → Shared → Prop} {E : Value → Shared → Prop} {l q : Addr} {n n2 : Nat} {a b : Int} {ta tb : Tok} {vs : List Value} {ns : List Int} {most : Int} {mt : Tok}
    (F : Fr h₀ L s.heap m) (X : (K0 w.params).In h₀) (N : News h₀ L s.heap ((l, listOf #[.ref q, .int a ta, .int b tb] n) :: (q, listOf vs.toArray n2) :: news)) (T : TT mean mg mb h₀) (hs : m "source" = some (.ref l)) (hm : m "most" = some (.int most mt)) (ha : 0 ≤ a) (h0 : 0 < most) (h1 : most ≤ 10) (hlq : l ≠ q) (hl : ∀ p ∈ (q, listOf vs.toArray n2) :: news, p.1 ≠ l) (hq : ∀ p ∈ news, p.1 ≠ q)
    (ret : ∀ h' tk' m' r t a' ta', Fr h₀ L h' m' → News h₀ L h' ((l, listOf #[.ref q, .int a' ta', .int b tb] n) :: (q, listOf vs.toArray n2) :: news) → 0 ≤ a' → 0 ≤ r → r < most → Q (.ret (.int r t)) { s with heap := h', toks := tk' }) :
    wpAny (model Challenge.rw_pq0456_01.row.prog w) A (execs ([nthS 1 tkBody, nthS 2 tkBody, nthS 3 tkBody]) (envOf "_law_take" tkScope L 229 (.ref 228))) Q E s := by
  revert F X N T
  k_fill
  intro F X N T
  have o9 := On.refl s
  dsimp only [tkBody, tkStmt, nthS, hdS, tlS, fnBody, ifBody, Challenge.pw_pq0456_01]
  k_steps
  (rename News h₀ L _ _ => N8)
  (rename Fr h₀ L _ _ => F8)
  exact On.out (Q _) (by walk_at "G on") (ret _ _ _ _ _ _ _ F8 N8 (Int.fdiv_nonneg ha (by omega)) (fmod_lo _ h0) (fmod_hi _ h0))

theorem tk_body {w : World} {mean : ExcName → Option Value} {mg mb : Str → Option Value} {A : Around} {h₀ : Heap} {L : Addr} {m : Str → Option Value} {news : Led} {s : Shared} {Q : Flow → Shared → Prop} {E : Value → Shared → Prop} {l q : Addr} {n n2 : Nat} {a b : Int} {ta tb : Tok} {vs : List Value} {ns : List Int} {most : Int} {mt : Tok}
    (F : Fr h₀ L s.heap m) (X : (K0 w.params).In h₀) (N : News h₀ L s.heap ((l, listOf #[.ref q, .int a ta, .int b tb] n) :: (q, listOf vs.toArray n2) :: news)) (T : TT mean mg mb h₀) (hs : m "source" = some (.ref l)) (hm : m "most" = some (.int most mt)) (hA : A.units + 64 < cLine) (hi : IntsAre vs ns) (hv : vs.length ≤ 100) (hb0 : 0 ≤ b) (hb1 : b < 2147483563) (ha : 0 ≤ a) (h0 : 0 < most) (h1 : most ≤ 10) (hlq : l ≠ q) (hl : ∀ p ∈ (q, listOf vs.toArray n2) :: news, p.1 ≠ l) (hq : ∀ p ∈ news, p.1 ≠ q)
    (ret : ∀ h' tk' m' r t ol' oq', Fr h₀ L h' m' → News h₀ L h' ((l, ol') :: (q, oq') :: news) → Src q ol' oq' → 0 ≤ r → r < most → Q (.ret (.int r t)) { s with heap := h', toks := tk' }) :
    wpAny (model Challenge.rw_pq0456_01.row.prog w) A (execs (tkBody) (envOf "_law_take" tkScope L 229 (.ref 228))) Q E s := by
  have tail : ∀ (a' b' : Int) ta' tb' vs' ns' n2' h' tk', Fr h₀ L h' m → News h₀ L h' ((l, listOf #[.ref q, .int a' ta', .int b' tb'] n) :: (q, listOf vs'.toArray n2') :: news) → IntsAre vs' ns' → vs'.length ≤ 100 → 0 ≤ b' → b' < 2147483563 → 0 ≤ a' → wpAny (model Challenge.rw_pq0456_01.row.prog w) A (execs ([nthS 1 tkBody, nthS 2 tkBody, nthS 3 tkBody]) (envOf "_law_take" tkScope L 229 (.ref 228))) Q E { s with heap := h', toks := tk' } :=
    fun a' b' ta' tb' vs' ns' n2' h' tk' F N hi hv hb0 hb1 ha =>
      tk_4 (ns := ns') (s := { s with heap := h', toks := tk' }) F X N T hs hm ha h0 h1 hlq (offl hl) hq fun h2 tk2 m2 r t a2 ta2 F N ha2 r0 r1 =>
        ret h2 tk2 m2 r t _ _ F N ⟨⟨a2, b', ta2, tb', n, n2', vs', ns', rfl, rfl, hi, hv, hb0, hb1, ha2⟩⟩ r0 r1
  refine tk_0 (ns := ns) (rest := [nthS 1 tkBody, nthS 2 tkBody, nthS 3 tkBody]) F X N T hs (fun h' tk' K F N hK => ?_) (fun h' tk' F N => tail a b ta tb vs ns n2 h' tk' F N hi hv hb0 hb1 ha)
  show wpAny (model Challenge.rw_pq0456_01.row.prog w) A (execs ([nthS 0 (ifBody (nthS 0 tkBody)), nthS 1 (ifBody (nthS 0 tkBody)), nthS 2 (ifBody (nthS 0 tkBody))]) (envOf "_law_take" tkScope L 229 (.ref 228))) K E { s with heap := h', toks := tk' }
  refine tk_1 (ns := ns) F X N T hs hlq hl hq fun h' tk' b' tb' F N hb0 hb1 => ?_
  refine tk_2 F X N T hs hA hi hv hlq hl hq fun h' tk' a' ta' vs' ns' n2' F N hi hv => ?_
  refine tk_3 (ns := ns') F X N T hs hlq (offl hl) hq fun h' tk' a' ta' F N ha => ?_
  exact wpAny_execs_nil (hK.next _ (tail a' b' ta' tb' vs' ns' n2' h' tk' F N hi hv hb0 hb1 ha))
theorem take_spec {w : World} {mean : ExcName → Option Value} {mg mb : Str → Option Value} {dp un : Nat} {gd : Option (List Code)} {cn : Str} {cs : Scope} {a : Addr} {ccd : Value} {cl : List (Str × Addr)} {outer : List Env} {A₀ : Around} {base h₀ : Heap} {L : Addr} {m : Str → Option Value} {news : Led} {s : Shared} {l q : Addr} {ol oq : Obj} {most : Int} {mt : Tok}
    {Q E : Value → Shared → Prop} (B : Below A₀ base outer h₀) (F : Fr h₀ L s.heap m) (X : (K0 w.params).In h₀) (N : News h₀ L s.heap ((l, ol) :: (q, oq) :: news)) (T : TT mean mg mb h₀) (hk : cs.kind = .function) (hd : dp < 400) (hu : un < 2000)
    (S : Src q ol oq) (hlq : l ≠ q) (hl : ∀ p ∈ news, p.1 ≠ l) (hq : ∀ p ∈ news, p.1 ≠ q) (h0 : 0 < most) (h1 : most ≤ 10)
    (ret : ∀ r t ol' oq' h' tk', Fr h₀ L h' m → News h₀ L h' ((l, ol') :: (q, oq') :: news) → Src q ol' oq' → 0 ≤ r → r < most → Q (.int r t) { s with heap := h', toks := tk' }) :
    wpAny (model Challenge.rw_pq0456_01.row.prog w) (ktrTop dp un gd cn cs L a ccd cl outer) (call (.ref 229) [.ref l, .int most mt]) Q E s := by
  revert B F X N T
  k_fill
  intro B F X N T
  obtain ⟨av, b, ta, tb, n, mm, vs, ns, rfl, rfl, hi, hv, hb0, hb1, ha0⟩ := S
  refine wpAny_call ?_
  k_dflt ktr_enter
  clear B F N
  (rename Fr _ _ _ _ => F8)
  obtain ⟨m9, F9, eg0, eg1⟩ := fr_gen (fun m => m "source" = some (.ref l) ∧ m "most" = some (.int most mt)) F8 ⟨rfl, rfl⟩
  clear F8
  refine toks_any (s := s) fun k9 => ?_
  (rename News _ _ _ _ => N9)
  refine tk_body F9 (by assumption) N9 (by assumption) eg0 eg1 (by ktr_units) hi hv hb0 hb1 ha0 h0 h1 hlq (fun p hp => (List.mem_cons.mp hp).elim (fun e => e ▸ Ne.symm hlq) (hl p)) hq fun h' tk' m' r t ol' oq' F N S r0 r1 => ?_
  k_steps
  exact ret _ _ _ _ _ _ (by k_asm) (by k_asm) S r0 r1
structure ND (f : List Addr) (im : Led) : Prop where
  nd : f.Nodup
  off : ∀ a ∈ f, ∀ p ∈ im, p.1 ≠ a
inductive Sl (a : Addr) (o o' : Obj) (im : Led) : List Addr → Led → Led → Prop
  | h {f : List Addr} {r : Led} : r.map (·.1) = f ++ im.map (·.1) → Sl a o o' im (a :: f) ((a, o) :: r) ((a, o') :: r)
  | t {b : Addr} {ob : Obj} {f : List Addr} {r r' : Led} : Sl a o o' im f r r' → Sl a o o' im (b :: f) ((b, ob) :: r) ((b, ob) :: r')
inductive SlF (a : Addr) (o : Obj) (im : Led) : List Addr → Led → (Obj → Led) → Prop
  | h {f : List Addr} {r : Led} : r.map (·.1) = f ++ im.map (·.1) → SlF a o im (a :: f) ((a, o) :: r) (fun o' => (a, o') :: r)
  | t {b : Addr} {ob : Obj} {f : List Addr} {r : Led} {g : Obj → Led} : SlF a o im f r g → SlF a o im (b :: f) ((b, ob) :: r) (fun o' => (b, ob) :: g o')
section
variable {a : Addr} {o o' : Obj} {im led led' new : Led} {f : List Addr} {g : Obj → Led}
theorem ND.at {r : Led} (n : ND (a :: f) im) (e : r.map (·.1) = f ++ im.map (·.1)) : ∀ p ∈ r, p.1 ≠ a := by
  intro p hp
  have : p.1 ∈ f ++ im.map (·.1) := e ▸ List.mem_map_of_mem hp
  rcases List.mem_append.mp this with h | h
  · exact fun e => (List.nodup_cons.mp n.nd).1 (e ▸ h)
  · obtain ⟨p2, h2, e2⟩ := List.mem_map.mp h
    exact e2 ▸ n.off a (.head _) p2 h2
theorem ND.tl {b : Addr} (n : ND (b :: f) im) : ND f im := ⟨(List.nodup_cons.mp n.nd).2, fun a ha => n.off a (.tail _ ha)⟩
theorem Sl.mem (S : Sl a o o' im f led led') : a ∈ f := by
  induction S with
  | h => exact .head _
  | t _ ih => exact .tail _ ih
theorem Sl.upd (n : ND f im) (S : Sl a o o' im f led led') : Upd a o o' led led' := by
  induction S with
  | h e => exact .head (n.at e)
  | t S ih => exact .tail (fun e => (List.nodup_cons.mp n.nd).1 (by have e2 : _ = _ := e; dsimp only at e2; rw [e2]; exact S.mem)) (ih n.tl)
theorem SlF.mem (S : SlF a o im f led g) : a ∈ f := by
  induction S with
  | h => exact .head _
  | t _ ih => exact .tail _ ih
theorem SlF.upd (n : ND f im) (S : SlF a o im f led g) : UpdF a o led g := by
  induction S with
  | h e => exact .head (n.at e)
  | t S ih => exact .tail (fun e => (List.nodup_cons.mp n.nd).1 (by have e2 : _ = _ := e; dsimp only at e2; rw [e2]; exact S.mem)) (ih n.tl)
noncomputable def rot (i j k : Nat) (led : Led) : Led := ((led.drop i).drop j).take k ++ ((led.drop i).take j ++ ((led.drop i).drop j).drop k)
theorem news_rot {h₀ h : Heap} {L : Addr} (i j k : Nat) (N : News h₀ L h led) : News h₀ L h (rot i j k led) := fun p hp => N p (by
  unfold rot at hp
  rcases List.mem_append.mp hp with hp | hp
  · exact List.mem_of_mem_drop (List.mem_of_mem_drop (List.mem_of_mem_take hp))
  · rcases List.mem_append.mp hp with hp | hp
    · exact List.mem_of_mem_drop (List.mem_of_mem_take hp)
    · exact List.mem_of_mem_drop (List.mem_of_mem_drop (List.mem_of_mem_drop hp)))
theorem news_sw {h₀ h : Heap} {L : Addr} {x y : Addr × Obj} (N : News h₀ L h (x :: y :: led)) : News h₀ L h (y :: x :: led) := fun p hp => N p (by
  rcases List.mem_cons.mp hp with rfl | hp
  · exact .tail _ (.head _)
  rcases List.mem_cons.mp hp with rfl | hp
  · exact .head _
  · exact .tail _ (.tail _ hp))
def AllGe (d : Nat) : Led → Prop
  | [] => True
  | p :: r => @LE.le Nat _ d p.1 ∧ AllGe d r
theorem allGe_mem {d : Nat} : ∀ {led : Led}, AllGe d led → ∀ p ∈ led, @LE.le Nat _ d p.1
  | [], _, p, hp => nomatch hp
  | x :: r, h, p, hp => by
    rcases List.mem_cons.mp hp with rfl | hp
    · exact h.1
    · exact allGe_mem h.2 p hp
def Offs (new : List Addr) (im : Led) : Prop := ∀ p ∈ new, ∀ r ∈ im, r.1 ≠ p
theorem Offs.app {n1 n2 : List Addr} (A : Offs n1 im) (B : Offs n2 (new ++ im)) : Offs (n2 ++ n1) im := fun p hp r hr => by
  rcases List.mem_append.mp hp with hp | hp
  · exact B p hp r (List.mem_append_right _ hr)
  · exact A p hp r hr
theorem Offs.sub {n1 n2 : List Addr} (A : Offs n1 im) (k : ∀ p ∈ n2, p ∈ n1) : Offs n2 im := fun p hp => A p (k p hp)
theorem Offs.nil : Offs [] im := fun _ h => nomatch h
theorem lt_all {d : Nat} {as : List Addr} (e : led.map (·.1) = as) (A : AllLt d led) : ∀ b ∈ as, @LT.lt Nat _ b d := fun b hb => by
  rw [← e] at hb
  obtain ⟨p, hp, rfl⟩ := List.mem_map.mp hb
  exact allLt_mem A p hp
section
variable {d : Nat} (n : ND f im) (e : led.map (·.1) = f ++ im.map (·.1)) (A : AllLt d led) (G : AllGe d new)
include n e A G
theorem nd_t : ND f (new ++ im) := ⟨n.nd, fun b hb p hp => by
  rcases List.mem_append.mp hp with hp | hp
  · exact Nat.ne_of_gt (Nat.lt_of_lt_of_le (lt_all e A b (List.mem_append_left _ hb)) (allGe_mem G p hp))
  · exact n.off b hb p hp⟩
theorem nd_f {y : Nat} (j : Nat) (hy : d ≤ y) (hn : ∀ p ∈ new, p.1 ≠ y) : ND (f.take j ++ y :: f.drop j) (new ++ im) := by
  have hlt : ∀ b ∈ f, @LT.lt Nat _ b y := fun b hb => Nat.lt_of_lt_of_le (lt_all e A b (List.mem_append_left _ hb)) hy
  have n2 := nd_t n e A G
  have hs : (y :: f).Perm (f.take j ++ y :: f.drop j) := by
    have := (List.perm_middle (a := y) (l₁ := f.take j) (l₂ := f.drop j)).symm
    rwa [List.take_append_drop] at this
  refine ⟨hs.nodup_iff.mp (List.nodup_cons.mpr ⟨fun h => Nat.lt_irrefl _ (hlt y h), n.nd⟩), fun b hb p hp => ?_⟩
  rcases List.mem_cons.mp (hs.mem_iff.mpr hb) with rfl | hb
  · rcases List.mem_append.mp hp with hp | hp
    · exact hn p hp
    · exact Nat.ne_of_lt (Nat.lt_of_lt_of_le (lt_all e A p.1 (List.mem_append_right _ (List.mem_map_of_mem hp))) hy)
  · exact n2.off b hb p hp
theorem offs_new : Offs (new.map (·.1)) im := fun p hp r hr => by
  obtain ⟨p2, hp2, rfl⟩ := List.mem_map.mp hp
  exact Nat.ne_of_lt (Nat.lt_of_lt_of_le (lt_all e A r.1 (List.mem_append_right _ (List.mem_map_of_mem hr))) (allGe_mem G p2 hp2))
end
theorem nd_mv {y : Addr} {o : Obj} {f1 f2 : List Addr} (n : ND (f1 ++ y :: f2) im) : ND (f1 ++ f2) ((y, o) :: im) := by
  have hs := List.perm_middle (a := y) (l₁ := f1) (l₂ := f2)
  have hd := List.nodup_cons.mp (hs.nodup_iff.mp n.nd)
  refine ⟨hd.2, fun b hb p hp => ?_⟩
  rcases List.mem_cons.mp hp with rfl | hp
  · intro e
    have e : y = b := e
    subst e
    exact hd.1 hb
  · exact n.off b (hs.mem_iff.mpr (.tail _ hb)) p hp
end
section
variable {h₀ h : Heap} {L : Addr} {im led led0 led1 led2 : Led} {f : List Addr} {u v k : Addr} {ou ov ok ov' ou' ou2 : Obj}
theorem pack1 (_ : News h₀ L h ((u, ou) :: led)) (nd : ND f im) (A : AllLt u led0) (e : led0.map (·.1) = f ++ im.map (·.1)) : ND f ((u, ou) :: im) ∧ Offs [u] im :=
  ⟨nd_t (new := [(u, ou)]) nd e A ⟨Nat.le_refl _, trivial⟩, offs_new (new := [(u, ou)]) nd e A ⟨Nat.le_refl _, trivial⟩⟩
theorem pack2 (_ : News h₀ L h ((v, ov) :: (u, ou) :: led)) (nd : ND f im) (A : AllLt u led0) (e : led0.map (·.1) = f ++ im.map (·.1)) (A2 : AllLt v ((u, ou') :: led1)) : ND f ((v, ov) :: (u, ou) :: im) ∧ Offs [v, u] im :=
  ⟨nd_t (new := [(v, ov), (u, ou)]) nd e A ⟨Nat.le_of_lt A2.1, Nat.le_refl _, trivial⟩, offs_new (new := [(v, ov), (u, ou)]) nd e A ⟨Nat.le_of_lt A2.1, Nat.le_refl _, trivial⟩⟩
theorem pack3 (_ : News h₀ L h ((k, ok) :: (v, ov) :: (u, ou) :: led)) (nd : ND f im) (A : AllLt u led0) (e : led0.map (·.1) = f ++ im.map (·.1)) (A2 : AllLt v ((u, ou') :: led1)) (A3 : AllLt k ((v, ov') :: led2)) :
    ND f ((k, ok) :: (v, ov) :: (u, ou) :: im) ∧ Offs [k, v, u] im :=
  have l2 := Nat.le_of_lt (Nat.lt_trans A2.1 A3.1)
  ⟨nd_t (new := [(k, ok), (v, ov), (u, ou)]) nd e A ⟨l2, Nat.le_of_lt A2.1, Nat.le_refl _, trivial⟩, offs_new (new := [(k, ok), (v, ov), (u, ou)]) nd e A ⟨l2, Nat.le_of_lt A2.1, Nat.le_refl _, trivial⟩⟩
end
theorem nd_any {f : List Addr} {y : Addr} {o o' : Obj} {im : Led} (n : ND f ((y, o) :: im)) {b : Addr} (hb : b ∈ f) {p : Addr × Obj} (hp : p ∈ (y, o') :: im) : p.1 ≠ b := by
  rcases List.mem_cons.mp hp with rfl | hp
  · exact n.off b hb (y, o) (.head _)
  · exact n.off b hb p (.tail _ hp)
theorem two_ne {d x e : Nat} {ox od : Obj} (l2 : d < x) (l3 : x < e) : ∀ p ∈ [(x, ox), (d, od)], p.1 ≠ e := by
  intro p hp
  rcases List.mem_cons.mp hp with rfl | hp
  · exact Nat.ne_of_lt l3
  · rw [List.mem_singleton.mp hp]
    exact Nat.ne_of_lt (Nat.lt_trans l2 l3)
theorem three_ne {d x e t : Nat} {ot ox od : Obj} (l2 : d < x) (l3 : x < e) (l4 : e < t) : ∀ p ∈ [(t, ot), (x, ox), (d, od)], p.1 ≠ e := by
  intro p hp
  rcases List.mem_cons.mp hp with rfl | hp
  · exact Nat.ne_of_gt l4
  · exact two_ne l2 l3 p hp
theorem mem9 {p : Addr × Obj} {a1 a2 a3 a4 a5 a6 a7 a8 a9 : Addr} {im : Led} (h : p ∈ im) : p.1 ∈ a1 :: a2 :: a3 :: a4 :: a5 :: a6 :: a7 :: a8 :: a9 :: im.map (·.1) := List.mem_append_right [a1, a2, a3, a4, a5, a6, a7, a8, a9] (List.mem_map_of_mem h)
theorem mem_tail4 {p p1 p2 p3 : Addr × Obj} {im : Led} (h : p ∈ im) : p ∈ p1 :: p2 :: p3 :: im := .tail _ (.tail _ (.tail _ h))
theorem offs3 {a1 a2 a3 a4 a5 a6 a7 a8 rd d x : Addr} {led im : Led} (nd : ND [a1, a2, a3, a4, a5, a6, a7, a8, rd] im) (l1 : AllLt d led) (l2 : @LT.lt Nat _ d x) (e : led.map (·.1) = [a1, a2, a3, a4, a5, a6, a7, a8, rd] ++ im.map (·.1) := by rfl) : Offs [x, d, rd] im := by
  have o := offs_new (new := [(x, instObj 0 0), (d, instObj 0 0)]) nd e l1 ⟨Nat.le_of_lt l2, Nat.le_refl _, trivial⟩
  intro a ha r hr
  rcases List.mem_cons.mp ha with rfl | ha
  · exact o _ (.head _) r hr
  rcases List.mem_cons.mp ha with rfl | ha
  · exact o _ (.tail _ (.head _)) r hr
  · rw [List.mem_singleton.mp ha]
    exact nd.off rd (List.mem_append_right [a1, a2, a3, a4, a5, a6, a7, a8] (.head _)) r hr
theorem kv_ents {P : Params} {t : Nat → Tok} : ∀ {kvs : List (Str × Value)} {i : Nat}, KV P (entsOf P t i kvs) kvs
  | [], _ => .nil
  | (_, _) :: _, _ => .cons kv_ents
section
variable {P : Params} {t : Nat → Tok} {v0 v1 v2 v3 v4 v5 v6 v7 v8 v9 v10 v11 v12 v13 v : Value}
noncomputable abbrev rtKvs (v0 v1 v2 v3 v4 v5 v6 v7 v8 v9 v10 v11 v12 v13 : Value) : List (Str × Value) := [(Str.ofString "number", v0), (Str.ofString "path", v1), (Str.ofString "is_function", v2), (Str.ofString "automatic", v3), (Str.ofString "at", v4), (Str.ofString "width", v5), (Str.ofString "signed", v6), (Str.ofString "ports", v7), (Str.ofString "slots", v8), (Str.ofString "body", v9), (Str.ofString "source", v10), (Str.ofString "scope", v11), (Str.ofString "disable_scope", v12), (Str.ofString "made", v13)]
theorem kv_rt : KV P (routineEs P t v0 v1 v2 v3 v4 v5 v6 v7 v8 v9 v10 v11 v12 v13) (rtKvs v0 v1 v2 v3 v4 v5 v6 v7 v8 v9 v10 v11 v12 v13) := kv_ents (i := 0) (t := t) (kvs := rtKvs v0 v1 v2 v3 v4 v5 v6 v7 v8 v9 v10 v11 v12 v13)
theorem kv_rt2 {es : List DictEntry} (K : KV P es (kvPut (Str.ofString "scope") v (rtKvs v0 v1 v2 v3 v4 v5 v6 v7 v8 v9 v10 v11 v12 v13))) : ∃ t : Nat → Tok, es = routineEs P t v0 v1 v2 v3 v4 v5 v6 v7 v8 v9 v10 v v12 v13 := K.toks 0
end
section
variable {w : World} {mean : ExcName → Option Value} {mg mb : Str → Option Value} {dp un : Nat} {gd : Option (List Code)} {cn : Str} {cs : Scope} {a : Addr} {ccd : Value} {cl : List (Str × Addr)} {outer : List Env} {A₀ : Around} {base h₀ : Heap} {L : Addr} {m : Str → Option Value} {news im : Led} {f : List Addr} {s : Shared} {l q : Addr} {ol oq : Obj} {most : Int} {mt : Tok}
theorem take_nd {Q E : Value → Shared → Prop} (B : Below A₀ base outer h₀) (F : Fr h₀ L s.heap m) (X : (K0 w.params).In h₀) (N : News h₀ L s.heap ((l, ol) :: (q, oq) :: news)) (T : TT mean mg mb h₀) (hk : cs.kind = .function) (hd : dp < 400) (hu : un < 2000)
    (S : Src q ol oq) (n : ND (l :: q :: f) im) (e : news.map (·.1) = f ++ im.map (·.1)) (h0 : 0 < most) (h1 : most ≤ 10)
    (ret : ∀ (r : Nat) t ol' oq' h' tk', Fr h₀ L h' m → News h₀ L h' ((l, ol') :: (q, oq') :: news) → Src q ol' oq' → (r : Int) < most → Q (.int (r : Int) t) { s with heap := h', toks := tk' }) :
    wpAny (model Challenge.rw_pq0456_01.row.prog w) (ktrTop dp un gd cn cs L a ccd cl outer) (call (.ref 229) [.ref l, .int most mt]) Q E s := by
  have e2 : ((q, oq) :: news).map (·.1) = (q :: f) ++ im.map (·.1) := congrArg (q :: ·) e
  refine take_spec B F X N T hk hd hu S (fun h => (n.at e2) (q, oq) (.head _) h.symm) (fun p hp => n.at e2 p (.tail _ hp)) (n.tl.at e) h0 h1 fun r t ol' oq' h' tk' F' N' S' a b => ?_
  obtain ⟨k, rfl⟩ := Int.eq_ofNat_of_zero_le a
  exact ret k t ol' oq' h' tk' F' N' S' b
end
structure Vs (m : Str → Option Value) (l g sp tb : Addr) (i ab : Nat) (tat ta : Tok) : Prop where
  src : m "source" = some (.ref l)
  des : m "design" = some (.ref g)
  sps : m "spots" = some (.ref sp)
  tbl : m "table" = some (.ref tb)
  at' : m "at" = some (.int (i : Int) tat)
  abv : m "above" = some (.int (ab : Int) ta)
structure Vr (m : Str → Option Value) (i : Nat) (rt : Addr) (tm : Tok) : Prop where
  nam : m "name" = some (.str (nm i) tm)
  rou : m "routine" = some (.ref rt)
inductive Wd (w : World) (im : Led) (g rl sl sp x xe : Addr) (ab : Nat) : Prop
  | mk {gdd : Addr} {tg : Nat → Tok} {sg as ga ud pr tpv po ne bp : Value} {ng : Nat} {d : Addr} {t : Nat → Tok} {nmv par knd mdl num : Value} {path : Str} {tp tw : Tok} {n nsp : Nat} {sps : List Value} (h1 : (g, instObj 218 gdd) ∈ im) (h2 : (gdd, dictOf (designEs w.params tg sg as ga ud pr (.ref rl) (.ref sl) tpv po .none ne bp) ng) ∈ im)
    (h3 : (x, instObj 127 d) ∈ im) (h4 : (d, dictOf (scopeEs w.params t (.ref g) nmv par knd (.str path tp) (.str (Str.ofString "wire") tw) mdl (.ref xe) num) n) ∈ im) (h5 : path.length ≤ 10) (h6 : (sp, listOf sps.toArray nsp) ∈ im) (h7 : sps[((ab : Int)).toNat]? = some (.ref x)) : Wd w im g rl sl sp x xe ab
theorem Wd.mono {w : World} {im im' : Led} {g rl sl sp x xe : Addr} {ab : Nat} (W : Wd w im g rl sl sp x xe ab) (k : ∀ p ∈ im, p ∈ im') : Wd w im' g rl sl sp x xe ab := by
  cases W with
  | mk h1 h2 h3 h4 h5 h6 h7 => exact .mk (k _ h1) (k _ h2) (k _ h3) (k _ h4) h5 (k _ h6) h7
inductive Sx (w : World) (led : Led) (x g e : Addr) (num : Value) : Prop
  | mk {d : Addr} {t : Nat → Tok} {nmv par knd mdl : Value} {path net : Str} {tp tn : Tok} {n : Nat} (h1 : (x, instObj 127 d) ∈ led) (h2 : (d, dictOf (scopeEs w.params t (.ref g) nmv par knd (.str path tp) (.str net tn) mdl (.ref e) num) n) ∈ led) (h3 : path.length ≤ 50) : Sx w led x g e num
section
variable {w : World} {led led' : Led} (k : ∀ p ∈ led, p ∈ led')
include k
theorem Sx.mono {x g e : Addr} {num : Value} (S : Sx w led x g e num) : Sx w led' x g e num := by
  cases S with
  | mk h1 h2 h3 => exact .mk (k _ h1) (k _ h2) h3
end
theorem Sx.is {w : World} {led : Led} {x g e : Addr} {num : Value} {oe : Obj} {kvs : List (Str × Value)} (S : Sx w led x g e num) (h : (e, oe) ∈ led) (h4 : oe.IsDictOf (sk w) kvs) (h5 : (e == sysModules) = false) : ScopeIs w led x g kvs num := by
  cases S with
  | mk h1 h2 h3 => exact .mk h1 h2 h h4 h5
inductive Sy (w : World) (led : Led) (x g e : Addr) (num : Value) : Prop
  | mk {d : Addr} {t : Nat → Tok} {nmv par knd mdl path net : Value} {n : Nat} (h1 : (x, instObj 127 d) ∈ led) (h2 : (d, dictOf (scopeEs w.params t (.ref g) nmv par knd path net mdl (.ref e) num) n) ∈ led) : Sy w led x g e num
theorem Sy.is {w : World} {led led' : Led} {x g e : Addr} {num : Value} {oe : Obj} {kvs : List (Str × Value)} (S : Sy w led x g e num) (k : ∀ p ∈ led, p ∈ led') (h : (e, oe) ∈ led') (h4 : oe.IsDictOf (sk w) kvs) (h5 : (e == sysModules) = false) : ScopeIs w led' x g kvs num := by
  cases S with
  | mk h1 h2 => exact .mk (k _ h1) (k _ h2) h h4 h5
abbrev Rows := List (List Str × Addr × Value)
inductive XR (led : Led) (fo : Nat) : List (Str × Value) → Rows → Prop
  | yes {x1 x2 x3 : Addr} {ta tb tc td : Tok} {k : Int} (h1 : (x1, tupO [.str (Str.ofString "sig") ta, .int k tb]) ∈ led) (h2 : (x2, tupO [.str (Str.ofString "sig") tc, .int k td]) ∈ led) : XR led fo (stored [] (Str.ofString "x") (.ref x1)) ([] ++ [([Str.ofString "x"], x3, .ref x2)])
  | no : fo = 1 → XR led fo [] []
inductive VR (led : Led) (fo : Nat) (k : List (Str × Value)) : List (Str × Value) → Prop
  | yes {v1 : Addr} {ta tb tc : Tok} (h1 : (v1, tupO [.str (Str.ofString "local") ta, .int 0 tb, .int 4 tc, .bool false]) ∈ led) : VR led fo k (stored k (Str.ofString "v") (.ref v1))
  | no : fo = 0 → VR led fo k k
inductive BR (w : World) (led : Led) (g : Addr) (k : List (Str × Value)) (xs : Rows) : List (Str × Value) → Rows → Prop
  | yes {b1 b2 b3 y1 y2 y3 bk : Addr} {th ti tj tk tl tm tn : Tok} {kk nb : Int} (h4 : (b1, tupO [.str (Str.ofString "scope") th, .ref bk]) ∈ led) (h5 : (b2, tupO [.str (Str.ofString "scope") ti, .ref bk]) ∈ led) (h6 : ScopeIs w led bk g (stored [] (Str.ofString "y") (.ref y1)) (.int nb tj))
    (h7 : (y1, tupO [.str (Str.ofString "sig") tk, .int kk tl]) ∈ led) (h8 : (y2, tupO [.str (Str.ofString "sig") tm, .int kk tn]) ∈ led) : BR w led g k xs (stored k (Str.ofString "b") (.ref b1)) (xs ++ [([Str.ofString "b"], b3, .ref b2)] ++ [([Str.ofString "b", Str.ofString "y"], y3, .ref y2)])
  | no : BR w led g k xs k xs
section
variable {prog : Program} {w : World} {A : Around} {E : Value → Shared → Prop} {s : Shared} {h₀ : Heap} {L a b : Addr} {m : Str → Option Value} {led : Led} {value slice : PySem.Expr}
theorem rst_at : ∀ k : Nat, k < 3 → Txt.item (Str.ofString "rst") (k : Int) = nm k
  | 0, _ => by decide
  | 1, _ => by decide
  | 2, _ => by decide
  | n + 3, h => by omega
theorem nm_item {k : Nat} {t u : Tok} {Q : Value → Shared → Prop} (hk : k < 3) (h : ∀ t', Q (.str (nm k) t') { s with toks := s.toks + 1 })
    (hs : subscripted slice false (.str (Str.ofString "rst") t) (.int (k : Int) u) = operate [.str (Str.ofString "rst") t, .int (k : Int) u] (getItem (.str (Str.ofString "rst") t) (.int (k : Int) u)) := by with_unfolding_all rfl)
    (ht : ∀ r, letTemporaryGo value (.str (Str.ofString "rst") t) r = pure () := by intro _; with_unfolding_all rfl) :
    wpAny (model prog w) A (subscriptTail value slice (.str (Str.ofString "rst") t) (.int (k : Int) u)) Q E s := by
  have hl : (Str.ofString "rst").length = 3 := by decide
  refine item_str (fitsSsize_of (N := 9223372036854775808) (by omega) (by omega) (Int.le_refl _)) (by rw [hl]; omega) (by rw [hl]; omega) (fun _ => ?_) hs ht
  rw [rst_at k hk]
  exact h _
theorem list_pick {l : List Value} {k : Nat} {u : Tok} {n : Nat} {Q : Value → Shared → Prop} (N : News h₀ L s.heap led) (hp : (a, listOf l.toArray n) ∈ led) (hk : k < l.length) (hz : l.length ≤ 1000)
    (h : ∀ v, v ∈ l → Q v s)
    (hs : subscripted slice false (.ref a) (.int (k : Int) u) = operate [.ref a, .int (k : Int) u] (getItem (.ref a) (.int (k : Int) u)) := by with_unfolding_all rfl) :
    wpAny (model prog w) A (subscriptTail value slice (.ref a) (.int (k : Int) u)) Q E s :=
  list_item N hp (by omega) (by omega) (v := l[k]) (by simp [List.getElem?_eq_getElem hk]) (h _ (List.getElem_mem hk)) hs
theorem pick6 {h : Heap} {v : Value} {t1 t2 t3 t4 t5 t6 : Addr} {a1 a2 a3 a4 a5 a6 a7 a8 : Tok} (_N : News h₀ L h led) (h1 : (t1, tupO [.str (Str.ofString "x") a1]) ∈ led) (h2 : (t2, tupO [.str (Str.ofString "b") a2, .str (Str.ofString "y") a3]) ∈ led) (h3 : (t3, tupO [.str (Str.ofString "v") a4]) ∈ led)
    (h4 : (t4, tupO [.str (Str.ofString "b") a5]) ∈ led) (h5 : (t5, tupO [.str (Str.ofString "z") a6]) ∈ led) (h6 : (t6, tupO [.str (Str.ofString "x") a7, .str (Str.ofString "y") a8]) ∈ led)
    (hv : v ∈ [Value.ref t1, .ref t2, .ref t3, .ref t4, .ref t5, .ref t6]) : ∃ t vs ps, v = .ref t ∧ (t, tupO vs) ∈ led ∧ StrsAre vs ps ∧ ps ∈ menu ∧ vs.length ≤ 10 := by
  simp only [List.mem_cons, List.mem_nil_iff, or_false] at hv
  rcases hv with rfl | rfl | rfl | rfl | rfl | rfl
  · exact ⟨t1, _, ["x"], rfl, h1, .cons _ _ .nil, by decide, Nat.le_of_ble_eq_true rfl⟩
  · exact ⟨t2, _, ["b", "y"], rfl, h2, .cons _ _ (.cons _ _ .nil), by decide, Nat.le_of_ble_eq_true rfl⟩
  · exact ⟨t3, _, ["v"], rfl, h3, .cons _ _ .nil, by decide, Nat.le_of_ble_eq_true rfl⟩
  · exact ⟨t4, _, ["b"], rfl, h4, .cons _ _ .nil, by decide, Nat.le_of_ble_eq_true rfl⟩
  · exact ⟨t5, _, ["z"], rfl, h5, .cons _ _ .nil, by decide, Nat.le_of_ble_eq_true rfl⟩
  · exact ⟨t6, _, ["x", "y"], rfl, h6, .cons _ _ (.cons _ _ .nil), by decide, Nat.le_of_ble_eq_true rfl⟩
theorem items_of {prog : Program} {w : World} {vs : List Value} {ps : List Str} (h : StrsAre vs ps) : PySem.ItemsAre (PySem.strKind prog w) ps vs := by
  induction h with
  | nil => exact .nil
  | cons x t _ ih => exact .cons (strKind_is _ _ _ _) ih
theorem rows_get {w : World} {Q : Value → Shared → Prop} {led led0 : Led} {ra tl : Addr} {ro : Obj} {xs : List (List Str × Addr × Value)} {vs : List Value} {ps : List Str} (hroom : A.in1.units < cLine) (N : News h₀ L s.heap led) (hr : (ra, ro) ∈ led) (R₀ : RowsO w led0 ro xs) (hk : ∀ p ∈ led0, p ∈ led) (lo : (ra == sysModules) = false)
    (ht : (tl, tupO vs) ∈ led) (hv : StrsAre vs ps) (h : Q (((atKey xs ps).map (·.2)).getD .none) { s with toks := s.toks + (ps.length + 1) }) :
    wpAny (model Challenge.rw_pq0456_01.row.prog w) A (call (.builtin "dict.get") [.ref ra, .ref tl]) Q E s :=
  have R := R₀.mono hk
  call_meetsIn PySem.F.slot_dict_get (R.at N hr).typeIs PySem.F.entry_dict_get (PySem.F.args_dict_get_2 _ _) (meetsH_dict_get (PySem.tupleKind (sk w)) ra tl lo) ⟨hroom, ps, xs, ⟨_, vs.toArray, _, N.get ht, rfl, rfl, by simpa using items_of hv⟩, R.at N hr, h⟩
theorem ent_len {kvs : List (Str × Value)} {oe : Obj} {Q : Value → Shared → Prop} (N : News h₀ L s.heap led) (hp : (a, oe) ∈ led) (hd : oe.IsDictOf (PySem.strKind prog w) kvs) (lo : (a == sysModules) = false) (hfit : kvs.length ≤ 16777216)
    (h : Q (.int kvs.length (s.toks + 1)) { s with toks := s.toks + 1 + 1 }) : wpAny (model prog w) A (call (.builtin "len") [.ref a]) Q E s := kda_len N hp hd lo hfit h
theorem int_le_yes {i j : Int} {t u : Tok} {Q : Value → Shared → Prop} (h : i ≤ j) (q : Q (.bool true) s) : wpAny (model prog w) A (compareOp .LtE (.int i t) (.int j u)) Q E s := by
  refine le_int ?_
  rw [show decide (i ≤ j) = true from decide_eq_true h]; exact q
theorem int_le_no {i j : Int} {t u : Tok} {Q : Value → Shared → Prop} (h : ¬ i ≤ j) (q : Q (.bool false) s) : wpAny (model prog w) A (compareOp .LtE (.int i t) (.int j u)) Q E s := by
  refine le_int ?_
  rw [show decide (i ≤ j) = false from decide_eq_false h]; exact q
end
section
variable {prog : Program} {w w' : World} {A : Around} {E : Value → Shared → Prop} {s : Shared} {value slice : PySem.Expr} {im : Led} {g : Addr} {rts : List Value} {kT kI kB : List (Str × Value)} {n : Nat}
theorem nm_pick {k : Nat} {t u : Tok} {Q : Value → Shared → Prop} (hR : ∀ j < n, RoutAt w' im g rts kT kI kB j) (hn : n ≤ 3) (hk : k < n) (h : ∀ t', RoutAt w' im g rts kT kI kB k → Q (.str (nm k) t') { s with toks := s.toks + 1 })
    (hs : subscripted slice false (.str (Str.ofString "rst") t) (.int (k : Int) u) = operate [.str (Str.ofString "rst") t, .int (k : Int) u] (getItem (.str (Str.ofString "rst") t) (.int (k : Int) u)) := by with_unfolding_all rfl)
    (ht : ∀ r, letTemporaryGo value (.str (Str.ofString "rst") t) r = pure () := by intro _; with_unfolding_all rfl) :
    wpAny (model prog w) A (subscriptTail value slice (.str (Str.ofString "rst") t) (.int (k : Int) u)) Q E s :=
  nm_item (Nat.lt_of_lt_of_le hk hn) (fun t' => h t' (hR k hk)) hs ht
end
structure Wrl (w : World) (im : Led) (g tx te ix ie rl sl tb sp : Addr) (oT oI oB : Obj) (kT kI kB : List (Str × Value)) (rts : List Value) (nr nsp n : Nat) : Prop where
  D : DesignIs w im g rl sl
  mr : (rl, listOf rts.toArray nr) ∈ im
  hr : rts.length ≤ 10
  H : TopIs w im g tx te
  I : InnIs w im g tx ix ie
  mT : (te, oT) ∈ im
  hT : oT.IsDictOf (sk w) kT
  lT : (te == sysModules) = false
  mI : (ie, oI) ∈ im
  hI : oI.IsDictOf (sk w) kI
  lI : (ie == sysModules) = false
  mB : (tb, oB) ∈ im
  hB : oB.IsDictOf (sk w) kB
  lB : (tb == sysModules) = false
  msp : (sp, listOf #[.ref tx, .ref ix] nsp) ∈ im
  hn : kB.length = n
  n1 : 1 ≤ n
  n3 : n ≤ 3
  R : ∀ j < n, RoutAt w im g rts kT kI kB j

section
variable {w : World} {mean : ExcName → Option Value} {mg mb : Str → Option Value} {im led : Led} {g tx te ix ie rl sl tb sp : Addr} {oT oI oB : Obj} {kT kI kB : List (Str × Value)} {rts : List Value} {nr nsp n : Nat}
theorem Wrl.mono (Wr : Wrl w im g tx te ix ie rl sl tb sp oT oI oB kT kI kB rts nr nsp n) (k : ∀ p ∈ im, p ∈ led) : Wrl w led g tx te ix ie rl sl tb sp oT oI oB kT kI kB rts nr nsp n :=
  ⟨Wr.D.mono k, k _ Wr.mr, Wr.hr, Wr.H.mono k, Wr.I.mono k, k _ Wr.mT, Wr.hT, Wr.lT, k _ Wr.mI, Wr.hI, Wr.lI, k _ Wr.mB, Wr.hB, Wr.lB, k _ Wr.msp, Wr.hn, Wr.n1, Wr.n3, fun j hj => (Wr.R j hj).mono k⟩
theorem Wrl.scope (Wr : Wrl w im g tx te ix ie rl sl tb sp oT oI oB kT kI kB rts nr nsp n) (hk : ∀ p ∈ im, p ∈ led) (st : Nat) : ∃ kvx numx, ScopeIs w led (if st = 0 then tx else ix) g kvx numx := by
  by_cases h : st = 0
  · rw [if_pos h]
    obtain ⟨num, S⟩ := Wr.H.scope Wr.mT Wr.hT Wr.lT
    exact ⟨_, _, S.mono hk⟩
  · rw [if_neg h]
    obtain ⟨num, S⟩ := Wr.I.scope Wr.mI Wr.hI Wr.lI
    exact ⟨_, _, S.mono hk⟩
theorem Wrl.ask (Wr : Wrl w im g tx te ix ie rl sl tb sp oT oI oB kT kI kB rts nr nsp n) (hk : ∀ p ∈ im, p ∈ led) {st j ab : Nat} {vs : List Value} {ps : List Str} {rt u tp ra : Addr} {tu ti ta : Tok} {xs : List (List Str × Addr × Value)}
    (hp : ps ∈ menu) (hvs : StrsAre vs ps) (hst : st ≤ 1) (hab : ab ≤ 1) (hj : j < n) (hri : rts[j]? = some (.ref rt)) (hu : valueAt (if ab = 0 then kT else kI) (nm j) = some (.ref u)) (mu : (u, tupO [.str (Str.ofString "routine") tu, .int (j : Int) ti]) ∈ im)
    (ho : valueAt (if ab = 0 then kI else kT) (nm j) = none) (Q : QRec w im g rt ra xs) :
    AskOK w mean mg mb led (if st = 0 then tx else ix) (nm j) vs (if ab ≤ st then ((atKey xs ps).map (·.2)).getD .none else .none) (if ab = st then ((atKey xs ps).map (·.2)).getD .none else .none) := by
  intro led' pl np t0 hk2 hm
  have k := fun p hp => hk2 p (hk p hp)
  exact ask_law (tp := tp) (ta := ta) hp hvs (Wr.D.mono k) (k _ Wr.mr) Wr.hr (Wr.H.mono k) (Wr.I.mono k) (kB := kB) (k _ Wr.mT) Wr.hT Wr.lT (k _ Wr.mI) Wr.hI Wr.lI ((Wr.R j hj).mono k) hm hst hab hri hu (k _ mu) ho (Q.mono k)
theorem QRec.rows {rt ra : Addr} {xs : List (List Str × Addr × Value)} (Q : QRec w im g rt ra xs) : ∃ ro, (ra, ro) ∈ im ∧ RowsO w im ro xs ∧ (ra == sysModules) = false := by
  cases Q with
  | bare a b c d e => exact ⟨_, b, c, d⟩
  | full a b c d e f => exact ⟨_, c, d, e⟩
theorem spot_at {tx ix : Addr} {st : Nat} (h : st ≤ 1) : [Value.ref tx, .ref ix][((st : Int)).toNat]? = some (.ref (if st = 0 then tx else ix)) := by
  rcases Nat.le_one_iff_eq_zero_or_eq_one.mp h with rfl | rfl <;> rfl
end
section
variable {prog : Program} {w : World} {A : Around} {E : Value → Shared → Prop} {s : Shared} {h₀ : Heap} {L a b : Addr} {m : Str → Option Value} {led led0 : Led}
theorem rows_method {ra : Addr} {ro : Obj} {xs : List (List Str × Addr × Value)} {pl : Sem Bool} {Q : Value × List Value → Shared → Prop} (N : News h₀ L s.heap led) (hr : (ra, ro) ∈ led) (R : RowsO w led0 ro xs)
    (h : Q (.builtin "dict.get", [.ref ra]) s) : wpAny (model prog w) A (getMethod (.ref ra) (Str.ofString "get") pl) Q E s := by
  obtain ⟨h1, h2, h3, h4, h5⟩ := R
  exact getMethod_builtin ⟨ro, N.get hr, h1.1⟩ PySem.F.plainAttrs_dict PySem.F.slot_dict_get PySem.F.type_dict_get (fun c e => by cases e; exact ⟨ro, N.get hr, h1.2.1⟩) h
end
theorem lines_t : True := by
  k_with_none
  k_with "G isb" => first | exact isSome_some (by assumption) | exact isSome_none (by assumption) | exact isSome_none rfl | exact isSome_some rfl
  k_with "Ev Name" => (fail_if_success plain_pass); k_dflt (exact ev_name (by walk_at "G val"))
  k_with "Ev Constant" => (fail_if_success plain_pass); k_dflt (first | exact ev_none | exact ev_bool)
  k_with "Ev Attribute" => (fail_if_success plain_pass); k_dflt (exact ev_attr (by walk1) (by k_asm) (by k_mem) (by k_mem) (by k_is) (by k_is) (by k_is) (by k_is) (by walk_at "G get") (by first | assumption | k_handed) (by with_unfolding_all rfl))
  k_with "Ev Subscript" => (fail_if_success plain_pass); k_dflt (first
    | exact ev_item_tup (by walk1) (by k_mem) (by decide) (by decide) (by rfl) (by rfl)
    | exact ev_item_lit (by walk1) (by k_mem) (by decide) (by decide) (by first | rfl | assumption)
    | exact ev_item_dict (by walk1) (by walk1) (by k_mem) (by assumption) (by assumption) (by with_unfolding_all rfl)
    | exact ev_item_list (by walk1) (by walk1) (by k_mem) (by omega) (by omega) (by assumption) (by with_unfolding_all rfl))
  k_with "Tw BoolOp" => (fail_if_success plain_pass); k_dflt (first
    | exact tw_and_nil
    | exact tw_or_nil
    | exact tw_and (by walk1) (by walk1)
    | exact tw_or (by walk1) (by walk1))
  k_with "AndK true" => (fail_if_success plain_pass); k_dflt (exact AndK.yes (by walk1))
  k_with "AndK false" => (fail_if_success plain_pass); exact AndK.no
  k_with "OrK false" => (fail_if_success plain_pass); k_dflt (exact OrK.no (by walk1))
  k_with "OrK true" => (fail_if_success plain_pass); exact OrK.yes
  k_with "G eqs" => first | exact (rfl : (_ : Bool) = true) | exact (rfl : (_ : Bool) = false) | assumption
  k_with "Te Compare" => (fail_if_success plain_pass); k_dflt (first
    | exact te_eq_str (by walk1) (by walk_at "G eqs")
    | exact te_none_yes (by walk1)
    | exact te_none_no (by walk1)
    | exact te_some_yes (by walk1)
    | exact te_some_no (by walk1)
    | exact te_in_yes (by walk1) (by walk1) (by k_mem) (by assumption) (by assumption) (by walk_at "G val") (by with_unfolding_all rfl)
    | exact te_in_no (by walk1) (by walk1) (by k_mem) (by assumption) (by assumption) (by walk_at "G val") (by with_unfolding_all rfl)
    | exact te_notin_yes (by walk1) (by walk1) (by k_mem) (by assumption) (by assumption) (by walk_at "G val") (by with_unfolding_all rfl)
    | exact te_notin_no (by walk1) (by walk1) (by k_mem) (by assumption) (by assumption) (by walk_at "G val") (by with_unfolding_all rfl))
  k_with "Te BoolOp" => (fail_if_success plain_pass); k_dflt (exact te_tw (by walk1))
  k_with "Te Name" => (fail_if_success plain_pass); k_dflt (exact te_bool (by walk1) (by with_unfolding_all rfl))
  k_with "eval Name" => (fail_if_success plain_pass); k_dflt (refine ev_use (by k_asm) (by k_asm) (by walk1) (fun k' => ?_))
  k_with "eval Attribute" => (fail_if_success plain_pass); k_dflt (refine ev_use (by k_asm) (by k_asm) (by walk1) (fun k' => ?_))
  k_with "eval Attribute Name" => (fail_if_success plain_pass); k_dflt (refine ev_use (by k_asm) (by k_asm) (by walk1) (fun k' => ?_))
  k_with "isTrue Compare" => (fail_if_success plain_pass); k_dflt (refine te_use (by k_asm) (by k_asm) (by walk1) (fun k' => ?_))
  k_with "G on" => exact On.step (by with_reducible assumption) (by rfl) (by rfl) (by rfl)
  k_with "execs cons" => (fail_if_success plain_pass); (k_dflt (refine anew (by walk_at "G on") (by k_asm) (by k_asm) (fun s9 o9 F9 N9 => ?_))); (try k_sweep); k_dflt (first
    | ((with_reducible show wpAny _ _ (execs (Stmt.Assign [PySem.Expr.Attribute _ _ _] _ _ :: _) _) _ _ _); (refine s_attr o9 F9 N9 (by walk1) (by walk1) (by assumption) (by k_mem) (by k_mem) (by k_is) (by k_is) (by k_is) (by k_is) (by walk_at "G keys") (by exact Nat.le_of_ble_eq_true rfl) (by intro es9 n9; walk_at "G updA") (fun s9 es9 n9 K9 o9 F9 N9 => ?_)); (try k_sweep))
    | ((with_reducible show wpAny _ _ (execs (Stmt.Assign [PySem.Expr.Name _ _] _ _ :: _) _) _ _ _); (refine s_assign F9 N9 (by walk1) (fun h' k' F' N' => ?_)); (try k_sweep))
    | ((with_reducible show wpAny _ _ (execs (Stmt.If _ _ _ _ :: _) _) _ _ _); refine s_if F9 N9 (by walk1) ?_)
    | ((with_reducible show wpAny _ _ (execs (Stmt.Return (some _) _ :: _) _) _ _ _); refine s_return F9 N9 (by walk1) (fun k' => ?_))
    | refine stmt_one ?_
    | refine stmt_cut (fun K hK => ?_))
  k_with "IfK true" => (fail_if_success plain_pass); first | with_reducible refine IfK.one (fun k' => ?_) | with_reducible refine IfK.tt (fun K hK k' => ?_)
  k_with "IfK false" => (fail_if_success plain_pass); first | with_reducible refine IfK.skip (fun k' => ?_) | with_reducible refine IfK.other (fun k' => ?_) | with_reducible refine IfK.ff (fun K hK k' => ?_)
  k_with "G back" => first | with_reducible refine Sq.next (by with_reducible assumption) _ ?_ | with_reducible refine Sq.ret (by with_reducible assumption) _ _ ?_ | with_reducible refine Br.t (by with_reducible assumption) _ ?_ | with_reducible refine Br.f (by with_reducible assumption) _ ?_
  k_with "call builtin:list.append" => (k_here; (with_reducible show wpAny _ _ (call (Value.builtin _) [Value.ref _, _]) _ _ _); k_dflt (refine list_push (by k_asm) (by k_asm) (by walk_at "G upd") (by first | omega | (simp only [List.length_append, List.length_cons, List.length_nil]; omega)) ?_); intro h' F' N'; (try k_sweep))
  k_with "call builtin:len" => (k_here; (with_reducible show wpAny _ _ (call (Value.builtin "len") [Value.ref _]) _ _ _); k_dflt (refine list_len (by k_asm) (by k_mem) (by first | omega | (simp only [List.length_append, List.length_cons, List.length_nil]; omega)) ?_))
  k_with "setItem ref str" => (k_here; k_dflt (refine ent_set (by k_asm) (by k_asm) (by walk_at "G updF") (by assumption) (by first | omega | exact Nat.le_of_ble_eq_true rfl) ?_); intro h' o' F' N' hd'; (try dsimp only at N'))
  k_with "G keys" => first | with_reducible assumption | exact KV.nil
  k_with "G get" => first | k_get | exact KV.get (by with_reducible assumption) (by rfl)
  k_with "G val" => first | exact rfl | assumption | walk_at "G var"
  k_with "G upd" => first | (apply Sl.upd nd; walk_at "G sl") | (apply Upd.tail; (focus walk_at "G ne"); walk_at "G upd")
  k_with "G sl" => first | ((with_reducible apply Sl.h); rfl) | ((with_reducible apply Sl.t); walk_at "G sl")
  k_with "G updF" => first | (apply SlF.upd nd; walk_at "G slF") | (apply UpdF.tail; (focus walk_at "G ne"); walk_at "G updF")
  k_with "G slF" => first | ((with_reducible apply SlF.h); rfl) | ((with_reducible apply SlF.t); walk_at "G slF")
  k_with "G ne" => first | exact Nat.ne_of_gt (ltm (by with_reducible assumption) (by k_mem)) | exact Nat.ne_of_gt (ltm l1 (by k_mem)) | exact Nat.ne_of_gt (Nat.lt_trans (ltm l1 (by k_mem)) l2) | exact Nat.ne_of_gt (Nat.lt_trans (Nat.lt_trans (ltm l1 (by k_mem)) l2) l3) | exact Nat.ne_of_gt (Nat.lt_trans (Nat.lt_trans (Nat.lt_trans (ltm l1 (by k_mem)) l2) l3) l4)
  k_with "newTuple" => (k_here; k_dflt (refine kup_newTuple (by k_asm) (by k_asm) (fun u9 h9 F9 N9 l9 => ?_) (by kmk_size)); replace l9 := allLt_of l9; (try k_sweep))
  k_with "eval Dict nil nil" => (k_here; k_dflt (refine newDict_K (by k_asm) (by k_asm) T.nolimit (fun u9 h9 ob9 F9 N9 l9 lo9 hd9 _ _ _ => ?_)); replace l9 := allLt_of l9; (try k_sweep))
  k_with "G sub" => (intro p hp; replace hp := sub p hp; k_ownIn)
  k_with "G items" => first | exact .cons (strKind_is _ _ _ _) .nil | exact .cons (strKind_is _ _ _ _) (.cons (strKind_is _ _ _ _) .nil)
  k_with "setItem ref ref" => (k_here; k_dflt (refine rows_set (by ktr_units) (by k_asm) (by k_asm) (by walk_at "G updF") (by with_reducible assumption) (by walk_at "G sub") (by k_mem) (by walk_at "G items") (by with_reducible assumption) (by omega) (fun h9 ro9 F9 N9 R9 => ?_)); (try dsimp only at N9); (try k_sweep))
  k_with "setAttr ref" => (k_dflt (refine set_kv (by walk_at "G on") (by k_asm) (by k_asm) (by assumption) (by k_mem) (by k_mem) (by k_is) (by k_is) (by k_is) (by k_is) kv_rt (by exact Nat.le_of_ble_eq_true rfl) (by intro es9 n9; walk_at "G upd") (fun s9 es9 n9 K9 o9 F9 N9 => ?_)); (try k_sweep))
  k_with "call ref" => (k_here; (with_reducible show wpAny _ _ (call (Value.ref 194) _) _ _ _); k_dflt (refine ds_add (by k_asm) (by k_asm) (by k_asm) (by k_asm) (by k_asm) (by rfl) (by ktr_room) (by ktr_units) (by k_mem) (by k_mem) (by k_mem) (by intro v9; walk_at "G upd") hz (fun s1 p1 x1 d1 h1 tk1 t1 tn1 wid1 dis1 n1 F1 N1 l1 l2 l3 l4 => ?_)); (try k_sweep))
  k_with "call ref" => (k_here; (with_reducible show wpAny _ _ (call (Value.ref 229) _) _ _ _); k_dflt (refine take_nd (by k_asm) (by k_asm) (by k_asm) (by k_asm) (by k_asm) (by rfl) (by ktr_room) (by ktr_units) S nd (by rfl) (by decide) (by decide) (fun r t ol oq h' tk' F' N' S b => ?_)); (try k_sweep))
  k_with "call ref" => (k_here; (with_reducible show wpAny _ _ (call (Value.ref 82) _) _ _ _); k_dflt (refine sc_declare (by k_asm) (by k_asm) (by k_asm) (by k_asm) (by k_asm) (by rfl) (by ktr_room) (by ktr_units) (by k_mem) (by k_mem) (by k_mem) (by walk_at "G updF") (by with_reducible assumption) (by with_reducible assumption) (by with_reducible assumption) (by omega) (fun o1 h1 tk1 F1 N1 hd1 => ?_)); (try dsimp only at N1); (try k_sweep))
  k_with "call ref" => (k_here; (with_reducible show wpAny _ _ (call (Value.ref 127) _) _ _ _); k_dflt (refine sc_in (by k_asm) (by k_asm) (by k_asm) (by k_asm) (by k_asm) (by rfl) (by ktr_room) (by ktr_units) (by k_mem) (by k_mem) (by k_mem) (by intro v9; walk_at "G upd") (by omega) (by omega) (by k_mem) (by k_mem) (by omega) (fun x1 d1 e1 o1 h1 tk1 t1 tp1 tw1 num1 tnum1 v1 n1 F1 N1 hd1 lo1 l1 l2 l3 => ?_)); (try dsimp only at N1); (try k_sweep))
  k_with "call ref" => (k_here; (with_reducible show wpAny _ _ (call (Value.ref 75) _) _ _ _); k_dflt (refine sc_child (by k_asm) (by k_asm) (by k_asm) (by k_asm) (by k_asm) (by rfl) (by ktr_room) (by ktr_units) (by k_mem) (by k_mem) (by k_mem) (by intro v9; walk_at "G upd") (by omega) (by decide) (by k_mem) (by k_mem) (by omega) (by k_mem) (by with_reducible assumption) (by with_reducible assumption) (by with_reducible assumption) (by omega) (by intro v9; walk_at "G updF") (fun tt1 x1 d1 e1 o1 oo1 h1 tk1 t1 tsc1 tp1 tw1 num1 tnum1 v1 n1 F1 N1 hd1 lo1 hd2 l1 l2 l3 l4 => ?_)); (try dsimp only at N1); (try k_sweep))
  k_with "call ref" => (k_here; (with_reducible show wpAny _ _ (call (Value.ref 96) _) _ _ _); k_dflt (refine sc_lookup (by k_asm) (by k_asm) (by k_asm) (by k_asm) (by k_asm) (by rfl) (by ktr_room) (by ktr_units) (by k_mem) (by k_mem) (by k_mem) (by with_reducible assumption) (by with_reducible assumption) (by with_reducible assumption) (fun h1 tk1 F1 N1 => ?_)); (try k_sweep))
  k_with "subscriptTail" => (k_here; (with_reducible show wpAny _ _ (subscriptTail _ _ (Value.str _ _) (Value.int _ _)) _ _ _); k_dflt (refine nm_item (by omega) (fun t9 => ?_)))
  k_with "subscriptTail Name Name ref int" => (k_here; k_dflt (refine list_item (by k_asm) (by k_mem) (by omega) (by omega) (by assumption) ?_))
  k_with "compareOp Eq int int" => (k_here; refine eq_int ?_)
  k_with "eval Attribute Subscript" => (fail_if_success plain_pass); k_dflt (refine ev_use (by k_asm) (by k_asm) (by walk1) (fun k' => ?_))
  k_with "G var" => first | exact V.src | exact V.des | exact V.sps | exact V.tbl | exact V.at' | exact V.abv | exact R.nam | exact R.rou | exact hro | exact hfo | exact hbl | exact hsrc
  trivial

theorem tb_1 {w : World} {mean : ExcName → Option Value} {mg mb : Str → Option Value} {fa : Addr} {cd : Value} {h₀ : Heap} {L : Addr} {m : Str → Option Value} {im : Led} {s : Shared} {Q : Flow → Shared → Prop} {E : Value → Shared → Prop} {rest : List Stmt}
    {l q sl rl xe ye tb g x sp : Addr} {ol oq oX oY oB : Obj} {rts scs : List Value} {nr ns i ab : Nat} {tat ta : Tok}
    (B : Below callerA h₀ [] h₀) (F : Fr h₀ L s.heap m) (X : (K0 w.params).In h₀) (N : News h₀ L s.heap ((l, ol) :: (q, oq) :: (sl, listOf scs.toArray ns) :: (rl, listOf rts.toArray nr) :: (xe, oX) :: (ye, oY) :: (tb, oB) :: im)) (T : TT mean mg mb h₀)
    (nd : ND [l, q, sl, rl, xe, ye, tb] im) (S : Src q ol oq) (W : Wd w im g rl sl sp x xe ab) (hi : i < 3) (hz : rts.length ≤ 100)
    (V : Vs m l g sp tb i ab tat ta) (hb1 : ab ≤ 1)
    (ret : ∀ h' tk' m' (ol' oq' : Obj) (rt rd : Addr) (t' : Nat → Tok) (tn tm : Tok) (path isf aut at' wid p1 s1 dis : Value) (n' : Nat), Fr h₀ L h' m' → News h₀ L h' ((l, ol') :: (q, oq') :: (sl, listOf scs.toArray ns) :: (rl, listOf (rts ++ [Value.ref rt]).toArray (nr + 1)) :: (xe, oX) :: (ye, oY) :: (tb, oB) :: (rd, dictOf (routineEs w.params t' (.int (rts.length : Int) tn) path isf aut at' wid (.bool false) p1 s1 .none .none .none dis (.bool false)) n') :: (rt, instObj 155 rd) :: im) →
      ND [l, q, sl, rl, xe, ye, tb, rd] ((rt, instObj 155 rd) :: im) → Offs [rt, rd] im → Src q ol' oq' → Vs m' l g sp tb i ab tat ta → Vr m' i rt tm → wpAny (model Challenge.rw_pq0456_01.row.prog w) (callerA.deeper (envOf "law" lawScope L fa cd)) (execs (rest) (envOf "law" lawScope L fa cd)) Q E { s with heap := h', toks := tk' }) :
    wpAny (model Challenge.rw_pq0456_01.row.prog w) (callerA.deeper (envOf "law" lawScope L fa cd)) (execs (nthS 1 buildBody :: nthS 2 buildBody :: rest) (envOf "law" lawScope L fa cd)) Q E s := by
  revert B F X N T
  k_fill
  intro B F X N T
  have o9 := On.refl s
  cases W with
  | mk h1 h2 h3 h4 h5 h6 h7 =>
  dsimp only [buildBody, lawTail, lawDef, Challenge.pw_pq0456_01, fnBody, forBody, ifBody, nthS, lastS, tlS, hdS]
  have hle := nm_len i
  k_steps
  (rename News h₀ L _ _ => N8)
  (rename Fr h₀ L _ _ => F8)
  exact On.out (wpAny _ _ _ _ _) (by walk_at "G on") (ret _ _ _ _ _ _ _ _ _ _ _ _ _ _ _ _ _ _ _ F8 (news_rot 0 2 7 (news_sw (news_rot 2 0 0 N8))) (nd_f (new := [(x1, instObj 155 d1)]) nd rfl l1 ⟨Nat.le_of_lt l2, trivial⟩ 7 (Nat.le_refl _) (List.forall_mem_singleton.mpr (Nat.ne_of_gt l2))) (offs_new (new := [(x1, instObj 155 d1), (d1, instObj 155 d1)]) nd rfl l1 ⟨Nat.le_of_lt l2, Nat.le_refl _, trivial⟩) (by with_reducible assumption) ⟨V.src, V.des, V.sps, V.tbl, V.at', V.abv⟩ ⟨rfl, rfl⟩)

theorem tb_2 {w : World} {mean : ExcName → Option Value} {mg mb : Str → Option Value} {fa : Addr} {cd : Value} {h₀ : Heap} {L : Addr} {m : Str → Option Value} {im : Led} {s : Shared} {Q : Flow → Shared → Prop} {E : Value → Shared → Prop} {rest : List Stmt}
    {l q sl rl xe ye tb : Addr} {ol oq oS oR oX oY oB : Obj} {g sp rt : Addr} {i ab : Nat} {tat ta tm : Tok} {rd x : Addr} {t' : Nat → Tok} {v1 v2 v3 v4 v5 v6 v7 v8 v9 v10 v11 v12 v13 : Value} {k n' : Nat} {tn : Tok} {kX : List (Str × Value)}
    (B : Below callerA h₀ [] h₀) (F : Fr h₀ L s.heap m) (X : (K0 w.params).In h₀) (N : News h₀ L s.heap ((l, ol) :: (q, oq) :: (sl, oS) :: (rl, oR) :: (xe, oX) :: (ye, oY) :: (tb, oB) :: (rd, dictOf (routineEs w.params t' (.int (k : Int) tn) v1 v2 v3 v4 v5 v6 v7 v8 v9 v10 v11 v12 v13) n') :: im)) (T : TT mean mg mb h₀)(nd : ND [l, q, sl, rl, xe, ye, tb, rd] im) (W : Wd w im g rl sl sp x xe ab) (hr : (rt, instObj 155 rd) ∈ im) (hX : oX.IsDictOf (sk w) kX) (lX : (xe == sysModules) = false) (vX : valueAt kX (nm i) = none) (zX : kX.length ≤ 10) (V : Vs m l g sp tb i ab tat ta) (R : Vr m i rt tm) (hb1 : ab ≤ 1)
    (ret : ∀ h' tk' oX' u tu ti, Fr h₀ L h' m → News h₀ L h' ((l, ol) :: (q, oq) :: (sl, oS) :: (rl, oR) :: (xe, oX') :: (ye, oY) :: (tb, oB) :: (rd, dictOf (routineEs w.params t' (.int (k : Int) tn) v1 v2 v3 v4 v5 v6 v7 v8 v9 v10 v11 v12 v13) n') :: (u, tupO [.str (Str.ofString "routine") tu, .int (k : Int) ti]) :: im) → ND [l, q, sl, rl, xe, ye, tb, rd] ((u, tupO [.str (Str.ofString "routine") tu, .int (k : Int) ti]) :: im) → Offs [u] im → oX'.IsDictOf (sk w) (stored kX (nm i) (.ref u)) → wpAny (model Challenge.rw_pq0456_01.row.prog w) (callerA.deeper (envOf "law" lawScope L fa cd)) (execs (rest) (envOf "law" lawScope L fa cd)) Q E { s with heap := h', toks := tk' }) :
    wpAny (model Challenge.rw_pq0456_01.row.prog w) (callerA.deeper (envOf "law" lawScope L fa cd)) (execs (nthS 3 buildBody :: rest) (envOf "law" lawScope L fa cd)) Q E s := by
  revert B F X N T
  k_fill
  intro B F X N T
  have o9 := On.refl s
  cases W with
  | mk h1 h2 h3 h4 h5 h6 h7 =>
  dsimp only [buildBody, lawTail, lawDef, Challenge.pw_pq0456_01, fnBody, forBody, ifBody, nthS, lastS, tlS, hdS]
  k_steps
  (rename News h₀ L _ _ => N8)
  (rename Fr h₀ L _ _ => F8)
  have pk := pack1 N8 nd (by with_reducible assumption) (by rfl)
  exact On.out (wpAny _ _ _ _ _) (by walk_at "G on") (ret _ _ _ _ _ _ F8 (news_rot 0 1 8 N8) pk.1 pk.2 (by with_reducible assumption))

theorem tb_3 {w : World} {mean : ExcName → Option Value} {mg mb : Str → Option Value} {fa : Addr} {cd : Value} {h₀ : Heap} {L : Addr} {m : Str → Option Value} {im : Led} {s : Shared} {Q : Flow → Shared → Prop} {E : Value → Shared → Prop} {rest : List Stmt}
    {l q sl rl xe ye tb : Addr} {ol oq oS oR oX oY oB : Obj} {g sp rt : Addr} {i ab : Nat} {tat ta tm : Tok} {rd : Addr} {oD : Obj}
    (B : Below callerA h₀ [] h₀) (F : Fr h₀ L s.heap m) (X : (K0 w.params).In h₀) (N : News h₀ L s.heap ((l, ol) :: (q, oq) :: (sl, oS) :: (rl, oR) :: (xe, oX) :: (ye, oY) :: (tb, oB) :: (rd, oD) :: im)) (T : TT mean mg mb h₀)(nd : ND [l, q, sl, rl, xe, ye, tb, rd] im) (V : Vs m l g sp tb i ab tat ta) (R : Vr m i rt tm)
    (ret : ∀ h' tk' m' ra ro, Fr h₀ L h' m' → News h₀ L h' ((l, ol) :: (q, oq) :: (sl, oS) :: (rl, oR) :: (xe, oX) :: (ye, oY) :: (tb, oB) :: (ra, ro) :: (rd, oD) :: im) → ND [l, q, sl, rl, xe, ye, tb, ra, rd] im → Offs [ra] im → (ra == sysModules) = false → ro.IsDictOf (sk w) [] → Vs m' l g sp tb i ab tat ta → Vr m' i rt tm → m' "rows" = some (.ref ra) → wpAny (model Challenge.rw_pq0456_01.row.prog w) (callerA.deeper (envOf "law" lawScope L fa cd)) (execs (rest) (envOf "law" lawScope L fa cd)) Q E { s with heap := h', toks := tk' }) :
    wpAny (model Challenge.rw_pq0456_01.row.prog w) (callerA.deeper (envOf "law" lawScope L fa cd)) (execs (nthS 4 buildBody :: rest) (envOf "law" lawScope L fa cd)) Q E s := by
  revert B F X N T
  k_fill
  intro B F X N T
  have o9 := On.refl s
  dsimp only [buildBody, lawTail, lawDef, Challenge.pw_pq0456_01, fnBody, forBody, ifBody, nthS, lastS, tlS, hdS]
  k_steps
  (rename News h₀ L _ _ => N8)
  (rename Fr h₀ L _ _ => F8)
  (rename AllLt _ _ => l8)
  exact On.out (wpAny _ _ _ _ _) (by walk_at "G on") (ret _ _ _ _ _ F8 (news_rot 0 1 7 N8) (nd_f (new := []) nd rfl l8 trivial 7 (Nat.le_refl _) (fun _ h => nomatch h)) (offs_new (new := [(_, oD)]) nd rfl l8 ⟨Nat.le_refl _, trivial⟩) (by with_reducible assumption) (by with_reducible assumption) ⟨V.src, V.des, V.sps, V.tbl, V.at', V.abv⟩ ⟨R.nam, R.rou⟩ rfl)

theorem tb_4 {w : World} {mean : ExcName → Option Value} {mg mb : Str → Option Value} {fa : Addr} {cd : Value} {h₀ : Heap} {L : Addr} {m : Str → Option Value} {im : Led} {s : Shared} {Q : Flow → Shared → Prop} {E : Value → Shared → Prop} {rest : List Stmt}
    {l q sl rl xe ye tb : Addr} {ol oq oR oX oY oB : Obj} {g sp rt : Addr} {i ab : Nat} {tat ta tm : Tok} {ra rd x : Addr} {ro : Obj} {scs : List Value} {ns : Nat} {t' : Nat → Tok} {v0 v1 v2 v3 v4 v5 v6 v7 v8 v9 v10 v11 v12 v13 : Value} {n' : Nat}
    (B : Below callerA h₀ [] h₀) (F : Fr h₀ L s.heap m) (X : (K0 w.params).In h₀) (N : News h₀ L s.heap ((l, ol) :: (q, oq) :: (sl, listOf scs.toArray ns) :: (rl, oR) :: (xe, oX) :: (ye, oY) :: (tb, oB) :: (ra, ro) :: (rd, dictOf (routineEs w.params t' v0 v1 v2 v3 v4 v5 v6 v7 v8 v9 v10 v11 v12 v13) n') :: im)) (T : TT mean mg mb h₀)(nd : ND [l, q, sl, rl, xe, ye, tb, ra, rd] im) (W : Wd w im g rl sl sp x xe ab) (hr : (rt, instObj 155 rd) ∈ im) (hz : scs.length ≤ 100) (V : Vs m l g sp tb i ab tat ta) (R : Vr m i rt tm) (hb1 : ab ≤ 1)
    (ret : ∀ h' tk' sx se oE v (p1 p2 p3 : Addr × Obj) num tn, Fr h₀ L h' m → News h₀ L h' ((l, ol) :: (q, oq) :: (sl, listOf (scs ++ [v]).toArray (ns + 1)) :: (rl, oR) :: (xe, oX) :: (ye, oY) :: (tb, oB) :: (ra, ro) :: (se, oE) :: p1 :: p2 :: p3 :: im) → ND [l, q, sl, rl, xe, ye, tb, ra, se] (p1 :: p2 :: p3 :: im) → Offs [p1.1, p2.1, p3.1] im → (∀ led : Led, (∀ p ∈ [p1, p2, p3], p ∈ led) → (rt, instObj 155 rd) ∈ led → RoutineIs w led rt (.ref sx)) → Sx w [p1, p2, p3] sx g se (.int num tn) → oE.IsDictOf (sk w) [] → (se == sysModules) = false → wpAny (model Challenge.rw_pq0456_01.row.prog w) (callerA.deeper (envOf "law" lawScope L fa cd)) (execs (rest) (envOf "law" lawScope L fa cd)) Q E { s with heap := h', toks := tk' }) :
    wpAny (model Challenge.rw_pq0456_01.row.prog w) (callerA.deeper (envOf "law" lawScope L fa cd)) (execs (nthS 0 (ifBody (nthS 5 buildBody)) :: rest) (envOf "law" lawScope L fa cd)) Q E s := by
  revert B F X N T
  k_fill
  intro B F X N T
  have o9 := On.refl s
  cases W with
  | mk h1 h2 h3 h4 h5 h6 h7 =>
  have hle := nm_len i
  dsimp only [buildBody, lawTail, lawDef, Challenge.pw_pq0456_01, fnBody, forBody, ifBody, nthS, lastS, tlS, hdS]
  k_steps
  (rename News h₀ L _ _ => N8)
  (rename Fr h₀ L _ _ => F8)
  have hle2 : (Str.ofString ".").length = 1 := by decide
  (rename KV _ _ _ => K8)
  obtain ⟨t8, rfl⟩ := kv_rt2 K8
  have nd2 := nd_mv (o := dictOf [] 0) (f1 := [l, q, sl, rl, xe, ye, tb, ra]) (f2 := []) nd
  exact On.out (wpAny _ _ _ _ _) (by walk_at "G on") (ret _ _ _ _ _ _ (x1, _) (d1, _) (rd, _) _ _ F8 (news_rot 0 3 8 N8) (nd_f (new := [(x1, instObj 127 d1), (d1, _)]) ⟨nd2.nd, fun b hb p hp => nd_any nd2 hb hp⟩ rfl l1 ⟨Nat.le_of_lt l2, Nat.le_refl _, trivial⟩ 8 (Nat.le_of_lt (Nat.lt_trans l2 l3)) (two_ne l2 l3)) (offs3 nd l1 l2) (fun led k hr => .mk hr (k _ (.tail _ (.tail _ (.head _))))) (.mk (.head _) (.tail _ (.head _)) (by rw [PySem.Str.length_append, PySem.Str.length_append, hle, hle2]; omega)) (by with_reducible assumption) (by with_reducible assumption))

theorem tb_0 {w : World} {mean : ExcName → Option Value} {mg mb : Str → Option Value} {fa : Addr} {cd : Value} {h₀ : Heap} {L : Addr} {m : Str → Option Value} {im : Led} {s : Shared} {Q : Flow → Shared → Prop} {E : Value → Shared → Prop} {rest : List Stmt}
    {l q g sp tb : Addr} {ol oq : Obj} {news : Led} {f : List Addr} {i : Nat} {tat : Tok}
    (B : Below callerA h₀ [] h₀) (F : Fr h₀ L s.heap m) (X : (K0 w.params).In h₀) (N : News h₀ L s.heap ((l, ol) :: (q, oq) :: news)) (T : TT mean mg mb h₀)
    (nd : ND (l :: q :: f) im) (e : news.map (·.1) = f ++ im.map (·.1)) (S : Src q ol oq) (hsrc : m "source" = some (.ref l)) (hdes : m "design" = some (.ref g)) (hsp : m "spots" = some (.ref sp)) (htbl : m "table" = some (.ref tb)) (hat : m "at" = some (.int (i : Int) tat))
    (ret : ∀ h' tk' m' ol' oq' (ab : Nat) ta, Fr h₀ L h' m' → News h₀ L h' ((l, ol') :: (q, oq') :: news) → Src q ol' oq' → ab ≤ 1 → Vs m' l g sp tb i ab tat ta → wpAny (model Challenge.rw_pq0456_01.row.prog w) (callerA.deeper (envOf "law" lawScope L fa cd)) (execs (rest) (envOf "law" lawScope L fa cd)) Q E { s with heap := h', toks := tk' }) :
    wpAny (model Challenge.rw_pq0456_01.row.prog w) (callerA.deeper (envOf "law" lawScope L fa cd)) (execs (nthS 0 buildBody :: rest) (envOf "law" lawScope L fa cd)) Q E s := by
  revert B F X N T
  k_fill
  intro B F X N T
  have o9 := On.refl s
  dsimp only [buildBody, lawTail, lawDef, Challenge.pw_pq0456_01, fnBody, forBody, ifBody, nthS, lastS, tlS, hdS]
  k_with "call ref" => (k_here; (with_reducible show wpAny _ _ (call (Value.ref 229) _) _ _ _); k_dflt (refine take_nd (by k_asm) (by k_asm) (by k_asm) (by k_asm) (by k_asm) (by rfl) (by ktr_room) (by ktr_units) S nd e (by decide) (by decide) (fun r t ol oq h' tk' F' N' S b => ?_)); (try k_sweep))
  k_steps
  (rename News h₀ L _ _ => N8)
  (rename Fr h₀ L _ _ => F8)
  exact On.out (wpAny _ _ _ _ _) (by walk_at "G on") (ret _ _ _ _ _ r _ F8 N8 S (by omega) ⟨hsrc, hdes, hsp, htbl, hat, rfl⟩)

theorem tb_5 {w : World} {mean : ExcName → Option Value} {mg mb : Str → Option Value} {fa : Addr} {cd : Value} {h₀ : Heap} {L : Addr} {m : Str → Option Value} {im : Led} {s : Shared} {Q : Flow → Shared → Prop} {E : Value → Shared → Prop} {rest : List Stmt}
    {l q g sp tb rt ra : Addr} {ol oq : Obj} {news : Led} {f : List Addr} {i ab : Nat} {tat ta tm : Tok}
    (B : Below callerA h₀ [] h₀) (F : Fr h₀ L s.heap m) (X : (K0 w.params).In h₀) (N : News h₀ L s.heap ((l, ol) :: (q, oq) :: news)) (T : TT mean mg mb h₀)
    (nd : ND (l :: q :: f) im) (e : news.map (·.1) = f ++ im.map (·.1)) (S : Src q ol oq) (V : Vs m l g sp tb i ab tat ta) (R : Vr m i rt tm) (hro : m "rows" = some (.ref ra))
    (ret : ∀ h' tk' m' ol' oq' (fo : Nat) tf, Fr h₀ L h' m' → News h₀ L h' ((l, ol') :: (q, oq') :: news) → Src q ol' oq' → fo ≤ 2 → Vs m' l g sp tb i ab tat ta → Vr m' i rt tm → m' "rows" = some (.ref ra) → m' "form" = some (.int (fo : Int) tf) → wpAny (model Challenge.rw_pq0456_01.row.prog w) (callerA.deeper (envOf "law" lawScope L fa cd)) (execs (rest) (envOf "law" lawScope L fa cd)) Q E { s with heap := h', toks := tk' }) :
    wpAny (model Challenge.rw_pq0456_01.row.prog w) (callerA.deeper (envOf "law" lawScope L fa cd)) (execs (nthS 1 (ifBody (nthS 5 buildBody)) :: rest) (envOf "law" lawScope L fa cd)) Q E s := by
  revert B F X N T
  k_fill
  intro B F X N T
  have o9 := On.refl s
  dsimp only [buildBody, lawTail, lawDef, Challenge.pw_pq0456_01, fnBody, forBody, ifBody, nthS, lastS, tlS, hdS]
  k_with "call ref" => (k_here; (with_reducible show wpAny _ _ (call (Value.ref 229) _) _ _ _); k_dflt (refine take_nd (by k_asm) (by k_asm) (by k_asm) (by k_asm) (by k_asm) (by rfl) (by ktr_room) (by ktr_units) S nd e (by decide) (by decide) (fun r t ol oq h' tk' F' N' S b => ?_)); (try k_sweep))
  k_steps
  (rename News h₀ L _ _ => N8)
  (rename Fr h₀ L _ _ => F8)
  exact On.out (wpAny _ _ _ _ _) (by walk_at "G on") (ret _ _ _ _ _ r _ F8 N8 S (by omega) ⟨V.src, V.des, V.sps, V.tbl, V.at', V.abv⟩ ⟨R.nam, R.rou⟩ hro rfl)

theorem tb_6 {w : World} {mean : ExcName → Option Value} {mg mb : Str → Option Value} {fa : Addr} {cd : Value} {h₀ : Heap} {L : Addr} {m : Str → Option Value} {im : Led} {s : Shared} {Q : Flow → Shared → Prop} {E : Value → Shared → Prop} {rest : List Stmt}
    {l q g sp tb rt : Addr} {ol oq : Obj} {news : Led} {f : List Addr} {i ab : Nat} {tat ta tm : Tok} {body : List Stmt} {p1 p2 p3 p4 p5 p6 p7 : Pos} {k1 k2 : Nat}
    (B : Below callerA h₀ [] h₀) (F : Fr h₀ L s.heap m) (X : (K0 w.params).In h₀) (N : News h₀ L s.heap ((l, ol) :: (q, oq) :: news)) (T : TT mean mg mb h₀)
    (nd : ND (l :: q :: f) im) (e : news.map (·.1) = f ++ im.map (·.1)) (S : Src q ol oq) (V : Vs m l g sp tb i ab tat ta) (R : Vr m i rt tm)
    (tt : ∀ h' tk' ol' oq' (K : Flow → Shared → Prop), Fr h₀ L h' m → News h₀ L h' ((l, ol') :: (q, oq') :: news) → Src q ol' oq' → Sq Challenge.rw_pq0456_01.row.prog w (callerA.deeper (envOf "law" lawScope L fa cd)) rest (envOf "law" lawScope L fa cd) Q E K → wpAny (model Challenge.rw_pq0456_01.row.prog w) (callerA.deeper (envOf "law" lawScope L fa cd)) (execs (body) (envOf "law" lawScope L fa cd)) K E { s with heap := h', toks := tk' })
    (ff : ∀ h' tk' ol' oq', Fr h₀ L h' m → News h₀ L h' ((l, ol') :: (q, oq') :: news) → Src q ol' oq' → wpAny (model Challenge.rw_pq0456_01.row.prog w) (callerA.deeper (envOf "law" lawScope L fa cd)) (execs (rest) (envOf "law" lawScope L fa cd)) Q E { s with heap := h', toks := tk' }) :
    wpAny (model Challenge.rw_pq0456_01.row.prog w) (callerA.deeper (envOf "law" lawScope L fa cd)) (execs (.If (.Compare (.Call (.Name "_law_take" p1) [.Name "source" p2, .Constant (.int 5) k1 p3] [] p4) [.Lt] [.Constant (.int 4) k2 p5] p6) body [] p7 :: rest) (envOf "law" lawScope L fa cd)) Q E s := by
  revert B F X N T
  k_fill
  intro B F X N T
  have o9 := On.refl s
  k_with "call ref" => (k_here; (with_reducible show wpAny _ _ (call (Value.ref 229) _) _ _ _); k_dflt (refine take_nd (by k_asm) (by k_asm) (by k_asm) (by k_asm) (by k_asm) (by rfl) (by ktr_room) (by ktr_units) S nd e (by decide) (by decide) (fun r t ol oq h' tk' F' N' S b => ?_)); (try k_sweep))
  k_steps
  all_goals first
    | exact On.out (wpAny _ _ _ _ _) (by walk_at "G on") (tt _ _ _ _ _ (by k_asm) (by k_asm) S hK)
    | exact On.out (wpAny _ _ _ _ _) (by walk_at "G on") (ff _ _ _ _ (by k_asm) (by k_asm) S)

theorem tb_b {w : World} {mean : ExcName → Option Value} {mg mb : Str → Option Value} {fa : Addr} {cd : Value} {h₀ : Heap} {L : Addr} {m : Str → Option Value} {im : Led} {s : Shared} {Q : Flow → Shared → Prop} {E : Value → Shared → Prop} {rest : List Stmt}
    {l q g sp tb rt : Addr} {ol oq : Obj} {news : Led} {f : List Addr} {i ab : Nat} {tat ta tm : Tok} {body : List Stmt} {p1 p2 p3 p4 p5 p6 p7 : Pos} {k1 k2 : Nat}
    (B : Below callerA h₀ [] h₀) (F : Fr h₀ L s.heap m) (X : (K0 w.params).In h₀) (N : News h₀ L s.heap ((l, ol) :: (q, oq) :: news)) (T : TT mean mg mb h₀)
    (nd : ND (l :: q :: f) im) (e : news.map (·.1) = f ++ im.map (·.1)) (S : Src q ol oq) (V : Vs m l g sp tb i ab tat ta) (R : Vr m i rt tm)
    (tt : ∀ h' tk' ol' oq' (K : Flow → Shared → Prop), Fr h₀ L h' m → News h₀ L h' ((l, ol') :: (q, oq') :: news) → Src q ol' oq' → Sq Challenge.rw_pq0456_01.row.prog w (callerA.deeper (envOf "law" lawScope L fa cd)) rest (envOf "law" lawScope L fa cd) Q E K → wpAny (model Challenge.rw_pq0456_01.row.prog w) (callerA.deeper (envOf "law" lawScope L fa cd)) (execs (body) (envOf "law" lawScope L fa cd)) K E { s with heap := h', toks := tk' })
    (ff : ∀ h' tk' ol' oq', Fr h₀ L h' m → News h₀ L h' ((l, ol') :: (q, oq') :: news) → Src q ol' oq' → wpAny (model Challenge.rw_pq0456_01.row.prog w) (callerA.deeper (envOf "law" lawScope L fa cd)) (execs (rest) (envOf "law" lawScope L fa cd)) Q E { s with heap := h', toks := tk' }) :
    wpAny (model Challenge.rw_pq0456_01.row.prog w) (callerA.deeper (envOf "law" lawScope L fa cd)) (execs (.If (.Compare (.Call (.Name "_law_take" p1) [.Name "source" p2, .Constant (.int 2) k1 p3] [] p4) [.Eq] [.Constant (.int 0) k2 p5] p6) body [] p7 :: rest) (envOf "law" lawScope L fa cd)) Q E s := by
  revert B F X N T
  k_fill
  intro B F X N T
  have o9 := On.refl s
  k_with "call ref" => (k_here; (with_reducible show wpAny _ _ (call (Value.ref 229) _) _ _ _); k_dflt (refine take_nd (by k_asm) (by k_asm) (by k_asm) (by k_asm) (by k_asm) (by rfl) (by ktr_room) (by ktr_units) S nd e (by decide) (by decide) (fun r t ol oq h' tk' F' N' S b => ?_)); (try k_sweep))
  k_steps
  all_goals first
    | exact On.out (wpAny _ _ _ _ _) (by walk_at "G on") (tt _ _ _ _ _ (by k_asm) (by k_asm) S hK)
    | exact On.out (wpAny _ _ _ _ _) (by walk_at "G on") (ff _ _ _ _ (by k_asm) (by k_asm) S)

theorem tb_7 {w : World} {mean : ExcName → Option Value} {mg mb : Str → Option Value} {fa : Addr} {cd : Value} {h₀ : Heap} {L : Addr} {m : Str → Option Value} {im : Led} {s : Shared} {Q : Flow → Shared → Prop} {E : Value → Shared → Prop} {rest : List Stmt}
    {l q sl rl xe ye tb ra se : Addr} {ol oq oS oR oX oY oB ro oE : Obj} {g sp rt sx : Addr} {i ab : Nat} {tat ta tm : Tok} {num : Value} {kS : List (Str × Value)}
    (B : Below callerA h₀ [] h₀) (F : Fr h₀ L s.heap m) (X : (K0 w.params).In h₀) (N : News h₀ L s.heap ((l, ol) :: (q, oq) :: (sl, oS) :: (rl, oR) :: (xe, oX) :: (ye, oY) :: (tb, oB) :: (ra, ro) :: (se, oE) :: im)) (T : TT mean mg mb h₀)(nd : ND [l, q, sl, rl, xe, ye, tb, ra, se] im) (RI : RoutineIs w im rt (.ref sx)) (SX : Sx w im sx g se num) (hE : oE.IsDictOf (sk w) kS) (lE : (se == sysModules) = false) (vE : valueAt kS (Str.ofString "x") = none) (zE : kS.length ≤ 10) (V : Vs m l g sp tb i ab tat ta) (R : Vr m i rt tm) (hb1 : ab ≤ 1)
    (ret : ∀ h' tk' oE' u t0 t1, Fr h₀ L h' m → News h₀ L h' ((l, ol) :: (q, oq) :: (sl, oS) :: (rl, oR) :: (xe, oX) :: (ye, oY) :: (tb, oB) :: (ra, ro) :: (se, oE') :: (u, tupO [.str (Str.ofString "sig") t0, .int (10 + (i : Int)) t1]) :: im) → ND [l, q, sl, rl, xe, ye, tb, ra, se] ((u, tupO [.str (Str.ofString "sig") t0, .int (10 + (i : Int)) t1]) :: im) → Offs [u] im → oE'.IsDictOf (sk w) (stored kS (Str.ofString "x") (.ref u)) → wpAny (model Challenge.rw_pq0456_01.row.prog w) (callerA.deeper (envOf "law" lawScope L fa cd)) (execs (rest) (envOf "law" lawScope L fa cd)) Q E { s with heap := h', toks := tk' }) :
    wpAny (model Challenge.rw_pq0456_01.row.prog w) (callerA.deeper (envOf "law" lawScope L fa cd)) (execs (nthS 0 (ifBody (nthS 2 (ifBody (nthS 5 buildBody)))) :: rest) (envOf "law" lawScope L fa cd)) Q E s := by
  revert B F X N T
  k_fill
  intro B F X N T
  have o9 := On.refl s
  cases RI with
  | mk r1 r2 =>
  cases SX with
  | mk s1 s2 s3 =>
  dsimp only [buildBody, lawTail, lawDef, Challenge.pw_pq0456_01, fnBody, forBody, ifBody, nthS, lastS, tlS, hdS]
  k_steps
  (rename News h₀ L _ _ => N8)
  (rename Fr h₀ L _ _ => F8)
  have pk := pack1 N8 nd (by with_reducible assumption) (by rfl)
  exact On.out (wpAny _ _ _ _ _) (by walk_at "G on") (ret _ _ _ _ _ _ F8 (news_rot 0 1 9 N8) pk.1 pk.2 (by with_reducible assumption))

theorem tb_9 {w : World} {mean : ExcName → Option Value} {mg mb : Str → Option Value} {fa : Addr} {cd : Value} {h₀ : Heap} {L : Addr} {m : Str → Option Value} {im : Led} {s : Shared} {Q : Flow → Shared → Prop} {E : Value → Shared → Prop} {rest : List Stmt}
    {l q sl rl xe ye tb ra se : Addr} {ol oq oS oR oX oY oB ro oE : Obj} {g sp rt sx : Addr} {i ab : Nat} {tat ta tm : Tok} {num : Value} {kS : List (Str × Value)}
    (B : Below callerA h₀ [] h₀) (F : Fr h₀ L s.heap m) (X : (K0 w.params).In h₀) (N : News h₀ L s.heap ((l, ol) :: (q, oq) :: (sl, oS) :: (rl, oR) :: (xe, oX) :: (ye, oY) :: (tb, oB) :: (ra, ro) :: (se, oE) :: im)) (T : TT mean mg mb h₀)(nd : ND [l, q, sl, rl, xe, ye, tb, ra, se] im) (RI : RoutineIs w im rt (.ref sx)) (SX : Sx w im sx g se num) (hE : oE.IsDictOf (sk w) kS) (lE : (se == sysModules) = false) (vE : valueAt kS (Str.ofString "v") = none) (zE : kS.length ≤ 10) (V : Vs m l g sp tb i ab tat ta) (R : Vr m i rt tm) (hb1 : ab ≤ 1)
    (ret : ∀ h' tk' oE' u t0 t1 t2, Fr h₀ L h' m → News h₀ L h' ((l, ol) :: (q, oq) :: (sl, oS) :: (rl, oR) :: (xe, oX) :: (ye, oY) :: (tb, oB) :: (ra, ro) :: (se, oE') :: (u, tupO [.str (Str.ofString "local") t0, .int 0 t1, .int 4 t2, .bool false]) :: im) → ND [l, q, sl, rl, xe, ye, tb, ra, se] ((u, tupO [.str (Str.ofString "local") t0, .int 0 t1, .int 4 t2, .bool false]) :: im) → Offs [u] im → oE'.IsDictOf (sk w) (stored kS (Str.ofString "v") (.ref u)) → wpAny (model Challenge.rw_pq0456_01.row.prog w) (callerA.deeper (envOf "law" lawScope L fa cd)) (execs (rest) (envOf "law" lawScope L fa cd)) Q E { s with heap := h', toks := tk' }) :
    wpAny (model Challenge.rw_pq0456_01.row.prog w) (callerA.deeper (envOf "law" lawScope L fa cd)) (execs (nthS 0 (ifBody (nthS 3 (ifBody (nthS 5 buildBody)))) :: rest) (envOf "law" lawScope L fa cd)) Q E s := by
  revert B F X N T
  k_fill
  intro B F X N T
  have o9 := On.refl s
  cases RI with
  | mk r1 r2 =>
  cases SX with
  | mk s1 s2 s3 =>
  dsimp only [buildBody, lawTail, lawDef, Challenge.pw_pq0456_01, fnBody, forBody, ifBody, nthS, lastS, tlS, hdS]
  k_steps
  (rename News h₀ L _ _ => N8)
  (rename Fr h₀ L _ _ => F8)
  have pk := pack1 N8 nd (by with_reducible assumption) (by rfl)
  exact On.out (wpAny _ _ _ _ _) (by walk_at "G on") (ret _ _ _ _ _ _ _ F8 (news_rot 0 1 9 N8) pk.1 pk.2 (by with_reducible assumption))

theorem tb_e {w : World} {mean : ExcName → Option Value} {mg mb : Str → Option Value} {fa : Addr} {cd : Value} {h₀ : Heap} {L : Addr} {m : Str → Option Value} {im : Led} {s : Shared} {Q : Flow → Shared → Prop} {E : Value → Shared → Prop} {rest : List Stmt}
    {l q sl rl xe ye tb ra se be : Addr} {ol oq oS oR oX oY oB ro oE ob : Obj} {g sp rt bx : Addr} {i ab : Nat} {tat ta tm : Tok} {num : Value} {kS : List (Str × Value)}
    (B : Below callerA h₀ [] h₀) (F : Fr h₀ L s.heap m) (X : (K0 w.params).In h₀) (N : News h₀ L s.heap ((l, ol) :: (q, oq) :: (sl, oS) :: (rl, oR) :: (xe, oX) :: (ye, oY) :: (tb, oB) :: (ra, ro) :: (se, oE) :: (be, ob) :: im)) (T : TT mean mg mb h₀)(nd : ND [l, q, sl, rl, xe, ye, tb, ra, se, be] im) (SX : Sy w im bx g be num) (hbl : m "block" = some (.ref bx)) (hE : ob.IsDictOf (sk w) kS) (lE : (be == sysModules) = false) (vE : valueAt kS (Str.ofString "y") = none) (zE : kS.length ≤ 10) (V : Vs m l g sp tb i ab tat ta) (R : Vr m i rt tm) (hb1 : ab ≤ 1)
    (ret : ∀ h' tk' ob' u t0 t1, Fr h₀ L h' m → News h₀ L h' ((l, ol) :: (q, oq) :: (sl, oS) :: (rl, oR) :: (xe, oX) :: (ye, oY) :: (tb, oB) :: (ra, ro) :: (se, oE) :: (be, ob') :: (u, tupO [.str (Str.ofString "sig") t0, .int (20 + (i : Int)) t1]) :: im) → ND [l, q, sl, rl, xe, ye, tb, ra, se, be] ((u, tupO [.str (Str.ofString "sig") t0, .int (20 + (i : Int)) t1]) :: im) → Offs [u] im → ob'.IsDictOf (sk w) (stored kS (Str.ofString "y") (.ref u)) → wpAny (model Challenge.rw_pq0456_01.row.prog w) (callerA.deeper (envOf "law" lawScope L fa cd)) (execs (rest) (envOf "law" lawScope L fa cd)) Q E { s with heap := h', toks := tk' }) :
    wpAny (model Challenge.rw_pq0456_01.row.prog w) (callerA.deeper (envOf "law" lawScope L fa cd)) (execs (nthS 2 (ifBody (nthS 4 (ifBody (nthS 5 buildBody)))) :: rest) (envOf "law" lawScope L fa cd)) Q E s := by
  revert B F X N T
  k_fill
  intro B F X N T
  have o9 := On.refl s
  cases SX with
  | mk s1 s2 =>
  dsimp only [buildBody, lawTail, lawDef, Challenge.pw_pq0456_01, fnBody, forBody, ifBody, nthS, lastS, tlS, hdS]
  k_steps
  (rename News h₀ L _ _ => N8)
  (rename Fr h₀ L _ _ => F8)
  have pk := pack1 N8 nd (by with_reducible assumption) (by rfl)
  exact On.out (wpAny _ _ _ _ _) (by walk_at "G on") (ret _ _ _ _ _ _ F8 (news_rot 0 1 10 N8) pk.1 pk.2 (by with_reducible assumption))

theorem tb_8 {w : World} {mean : ExcName → Option Value} {mg mb : Str → Option Value} {fa : Addr} {cd : Value} {h₀ : Heap} {L : Addr} {m : Str → Option Value} {im : Led} {s : Shared} {Q : Flow → Shared → Prop} {E : Value → Shared → Prop} {rest : List Stmt}
    {l q sl rl xe ye tb ra se : Addr} {ol oq oS oR oX oY oB ro oE : Obj} {g sp rt : Addr} {i ab : Nat} {tat ta tm : Tok} {ledR : Led} {xs : Rows}
    (B : Below callerA h₀ [] h₀) (F : Fr h₀ L s.heap m) (X : (K0 w.params).In h₀) (N : News h₀ L s.heap ((l, ol) :: (q, oq) :: (sl, oS) :: (rl, oR) :: (xe, oX) :: (ye, oY) :: (tb, oB) :: (ra, ro) :: (se, oE) :: im)) (T : TT mean mg mb h₀)(nd : ND [l, q, sl, rl, xe, ye, tb, ra, se] im)  (RO : RowsO w ledR ro xs) (sub : ∀ p ∈ ledR, p ∈ im) (vR : atKey xs [Str.ofString "x"] = none) (zR : xs.length ≤ 10) (V : Vs m l g sp tb i ab tat ta) (R : Vr m i rt tm) (hro : m "rows" = some (.ref ra)) (hb1 : ab ≤ 1)
    (ret : ∀ h' tk' ro' kt vt k0 t0 t1, Fr h₀ L h' m → News h₀ L h' ((l, ol) :: (q, oq) :: (sl, oS) :: (rl, oR) :: (xe, oX) :: (ye, oY) :: (tb, oB) :: (ra, ro') :: (se, oE) :: (kt, tupO [.str (Str.ofString "x") k0]) :: (vt, tupO [.str (Str.ofString "sig") t0, .int (10 + (i : Int)) t1]) :: im) → ND [l, q, sl, rl, xe, ye, tb, ra, se] ((kt, tupO [.str (Str.ofString "x") k0]) :: (vt, tupO [.str (Str.ofString "sig") t0, .int (10 + (i : Int)) t1]) :: im) → Offs [kt, vt] im → RowsO w ((kt, tupO [.str (Str.ofString "x") k0]) :: ledR) ro' (xs ++ [([Str.ofString "x"], kt, .ref vt)]) → wpAny (model Challenge.rw_pq0456_01.row.prog w) (callerA.deeper (envOf "law" lawScope L fa cd)) (execs (rest) (envOf "law" lawScope L fa cd)) Q E { s with heap := h', toks := tk' }) :
    wpAny (model Challenge.rw_pq0456_01.row.prog w) (callerA.deeper (envOf "law" lawScope L fa cd)) (execs (nthS 1 (ifBody (nthS 2 (ifBody (nthS 5 buildBody)))) :: rest) (envOf "law" lawScope L fa cd)) Q E s := by
  revert B F X N T
  k_fill
  intro B F X N T
  have o9 := On.refl s
  dsimp only [buildBody, lawTail, lawDef, Challenge.pw_pq0456_01, fnBody, forBody, ifBody, nthS, lastS, tlS, hdS]
  k_steps
  (rename News h₀ L _ _ => N8)
  (rename Fr h₀ L _ _ => F8)
  have pk := pack2 N8 nd (by with_reducible assumption) (by rfl) (by with_reducible assumption)
  exact On.out (wpAny _ _ _ _ _) (by walk_at "G on") (ret _ _ _ _ _ _ _ _ F8 (news_rot 0 2 9 N8) pk.1 pk.2 (by with_reducible assumption))

theorem tb_d {w : World} {mean : ExcName → Option Value} {mg mb : Str → Option Value} {fa : Addr} {cd : Value} {h₀ : Heap} {L : Addr} {m : Str → Option Value} {im : Led} {s : Shared} {Q : Flow → Shared → Prop} {E : Value → Shared → Prop} {rest : List Stmt}
    {l q sl rl xe ye tb ra se be : Addr} {ol oq oS oR oX oY oB ro oE ob : Obj} {g sp rt bx : Addr} {i ab : Nat} {tat ta tm : Tok} {ledR : Led} {xs : Rows}
    (B : Below callerA h₀ [] h₀) (F : Fr h₀ L s.heap m) (X : (K0 w.params).In h₀) (N : News h₀ L s.heap ((l, ol) :: (q, oq) :: (sl, oS) :: (rl, oR) :: (xe, oX) :: (ye, oY) :: (tb, oB) :: (ra, ro) :: (se, oE) :: (be, ob) :: im)) (T : TT mean mg mb h₀)(nd : ND [l, q, sl, rl, xe, ye, tb, ra, se, be] im) (hbl : m "block" = some (.ref bx)) (RO : RowsO w ledR ro xs) (sub : ∀ p ∈ ledR, p ∈ im) (vR : atKey xs [Str.ofString "b"] = none) (zR : xs.length ≤ 10) (V : Vs m l g sp tb i ab tat ta) (R : Vr m i rt tm) (hro : m "rows" = some (.ref ra)) (hb1 : ab ≤ 1)
    (ret : ∀ h' tk' ro' kt vt k0 t0, Fr h₀ L h' m → News h₀ L h' ((l, ol) :: (q, oq) :: (sl, oS) :: (rl, oR) :: (xe, oX) :: (ye, oY) :: (tb, oB) :: (ra, ro') :: (se, oE) :: (be, ob) :: (kt, tupO [.str (Str.ofString "b") k0]) :: (vt, tupO [.str (Str.ofString "scope") t0, .ref bx]) :: im) → ND [l, q, sl, rl, xe, ye, tb, ra, se, be] ((kt, tupO [.str (Str.ofString "b") k0]) :: (vt, tupO [.str (Str.ofString "scope") t0, .ref bx]) :: im) → Offs [kt, vt] im → RowsO w ((kt, tupO [.str (Str.ofString "b") k0]) :: ledR) ro' (xs ++ [([Str.ofString "b"], kt, .ref vt)]) → wpAny (model Challenge.rw_pq0456_01.row.prog w) (callerA.deeper (envOf "law" lawScope L fa cd)) (execs (rest) (envOf "law" lawScope L fa cd)) Q E { s with heap := h', toks := tk' }) :
    wpAny (model Challenge.rw_pq0456_01.row.prog w) (callerA.deeper (envOf "law" lawScope L fa cd)) (execs (nthS 1 (ifBody (nthS 4 (ifBody (nthS 5 buildBody)))) :: rest) (envOf "law" lawScope L fa cd)) Q E s := by
  revert B F X N T
  k_fill
  intro B F X N T
  have o9 := On.refl s
  dsimp only [buildBody, lawTail, lawDef, Challenge.pw_pq0456_01, fnBody, forBody, ifBody, nthS, lastS, tlS, hdS]
  k_steps
  (rename News h₀ L _ _ => N8)
  (rename Fr h₀ L _ _ => F8)
  have pk := pack2 N8 nd (by with_reducible assumption) (by rfl) (by with_reducible assumption)
  exact On.out (wpAny _ _ _ _ _) (by walk_at "G on") (ret _ _ _ _ _ _ _ F8 (news_rot 0 2 10 N8) pk.1 pk.2 (by with_reducible assumption))

theorem tb_f {w : World} {mean : ExcName → Option Value} {mg mb : Str → Option Value} {fa : Addr} {cd : Value} {h₀ : Heap} {L : Addr} {m : Str → Option Value} {im : Led} {s : Shared} {Q : Flow → Shared → Prop} {E : Value → Shared → Prop} {rest : List Stmt}
    {l q sl rl xe ye tb ra se be : Addr} {ol oq oS oR oX oY oB ro oE ob : Obj} {g sp rt : Addr} {i ab : Nat} {tat ta tm : Tok} {ledR : Led} {xs : Rows}
    (B : Below callerA h₀ [] h₀) (F : Fr h₀ L s.heap m) (X : (K0 w.params).In h₀) (N : News h₀ L s.heap ((l, ol) :: (q, oq) :: (sl, oS) :: (rl, oR) :: (xe, oX) :: (ye, oY) :: (tb, oB) :: (ra, ro) :: (se, oE) :: (be, ob) :: im)) (T : TT mean mg mb h₀)(nd : ND [l, q, sl, rl, xe, ye, tb, ra, se, be] im)  (RO : RowsO w ledR ro xs) (sub : ∀ p ∈ ledR, p ∈ im) (vR : atKey xs [Str.ofString "b", Str.ofString "y"] = none) (zR : xs.length ≤ 10) (V : Vs m l g sp tb i ab tat ta) (R : Vr m i rt tm) (hro : m "rows" = some (.ref ra)) (hb1 : ab ≤ 1)
    (ret : ∀ h' tk' ro' kt vt k0 k1 t0 t1, Fr h₀ L h' m → News h₀ L h' ((l, ol) :: (q, oq) :: (sl, oS) :: (rl, oR) :: (xe, oX) :: (ye, oY) :: (tb, oB) :: (ra, ro') :: (se, oE) :: (be, ob) :: (kt, tupO [.str (Str.ofString "b") k0, .str (Str.ofString "y") k1]) :: (vt, tupO [.str (Str.ofString "sig") t0, .int (20 + (i : Int)) t1]) :: im) → ND [l, q, sl, rl, xe, ye, tb, ra, se, be] ((kt, tupO [.str (Str.ofString "b") k0, .str (Str.ofString "y") k1]) :: (vt, tupO [.str (Str.ofString "sig") t0, .int (20 + (i : Int)) t1]) :: im) → Offs [kt, vt] im → RowsO w ((kt, tupO [.str (Str.ofString "b") k0, .str (Str.ofString "y") k1]) :: ledR) ro' (xs ++ [([Str.ofString "b", Str.ofString "y"], kt, .ref vt)]) → wpAny (model Challenge.rw_pq0456_01.row.prog w) (callerA.deeper (envOf "law" lawScope L fa cd)) (execs (rest) (envOf "law" lawScope L fa cd)) Q E { s with heap := h', toks := tk' }) :
    wpAny (model Challenge.rw_pq0456_01.row.prog w) (callerA.deeper (envOf "law" lawScope L fa cd)) (execs (nthS 3 (ifBody (nthS 4 (ifBody (nthS 5 buildBody)))) :: rest) (envOf "law" lawScope L fa cd)) Q E s := by
  revert B F X N T
  k_fill
  intro B F X N T
  have o9 := On.refl s
  dsimp only [buildBody, lawTail, lawDef, Challenge.pw_pq0456_01, fnBody, forBody, ifBody, nthS, lastS, tlS, hdS]
  k_steps
  (rename News h₀ L _ _ => N8)
  (rename Fr h₀ L _ _ => F8)
  have pk := pack2 N8 nd (by with_reducible assumption) (by rfl) (by with_reducible assumption)
  exact On.out (wpAny _ _ _ _ _) (by walk_at "G on") (ret _ _ _ _ _ _ _ _ _ F8 (news_rot 0 2 10 N8) pk.1 pk.2 (by with_reducible assumption))

theorem tb_c {w : World} {mean : ExcName → Option Value} {mg mb : Str → Option Value} {fa : Addr} {cd : Value} {h₀ : Heap} {L : Addr} {m : Str → Option Value} {im : Led} {s : Shared} {Q : Flow → Shared → Prop} {E : Value → Shared → Prop} {rest : List Stmt}
    {l q sl rl xe ye tb ra se : Addr} {ol oq oR oX oY oB ro oE : Obj} {g sp rt sx : Addr} {i ab : Nat} {tat ta tm : Tok} {num : Value} {x : Addr} {kS : List (Str × Value)} {scs : List Value} {ns : Nat}
    (B : Below callerA h₀ [] h₀) (F : Fr h₀ L s.heap m) (X : (K0 w.params).In h₀) (N : News h₀ L s.heap ((l, ol) :: (q, oq) :: (sl, listOf scs.toArray ns) :: (rl, oR) :: (xe, oX) :: (ye, oY) :: (tb, oB) :: (ra, ro) :: (se, oE) :: im)) (T : TT mean mg mb h₀)(nd : ND [l, q, sl, rl, xe, ye, tb, ra, se] im) (W : Wd w im g rl sl sp x xe ab) (RI : RoutineIs w im rt (.ref sx)) (SX : Sx w im sx g se num) (hz : scs.length ≤ 100) (hE : oE.IsDictOf (sk w) kS) (lE : (se == sysModules) = false) (vE : valueAt kS (Str.ofString "b") = none) (zE : kS.length ≤ 10) (V : Vs m l g sp tb i ab tat ta) (R : Vr m i rt tm) (hro : m "rows" = some (.ref ra))
    (ret : ∀ h' tk' m' oE' bx be ob v tt (p1 p2 p3 : Addr × Obj) ts nb tn, Fr h₀ L h' m' → News h₀ L h' ((l, ol) :: (q, oq) :: (sl, listOf (scs ++ [v]).toArray (ns + 1)) :: (rl, oR) :: (xe, oX) :: (ye, oY) :: (tb, oB) :: (ra, ro) :: (se, oE') :: (be, ob) :: p1 :: p2 :: p3 :: im) → ND [l, q, sl, rl, xe, ye, tb, ra, se, be] (p1 :: p2 :: p3 :: im) → Offs [p1.1, p2.1, p3.1] im → (tt, tupO [.str (Str.ofString "scope") ts, .ref bx]) ∈ [p1, p2, p3] → Sy w [p1, p2, p3] bx g be (.int nb tn) → ob.IsDictOf (sk w) [] → (be == sysModules) = false → oE'.IsDictOf (sk w) (stored kS (Str.ofString "b") (.ref tt)) → Vs m' l g sp tb i ab tat ta → Vr m' i rt tm → m' "rows" = some (.ref ra) → m' "block" = some (.ref bx) → (∀ y, y ≠ Str.ofString "block" → m' y = m y) → wpAny (model Challenge.rw_pq0456_01.row.prog w) (callerA.deeper (envOf "law" lawScope L fa cd)) (execs (rest) (envOf "law" lawScope L fa cd)) Q E { s with heap := h', toks := tk' }) :
    wpAny (model Challenge.rw_pq0456_01.row.prog w) (callerA.deeper (envOf "law" lawScope L fa cd)) (execs (nthS 0 (ifBody (nthS 4 (ifBody (nthS 5 buildBody)))) :: rest) (envOf "law" lawScope L fa cd)) Q E s := by
  revert B F X N T
  k_fill
  intro B F X N T
  have o9 := On.refl s
  cases W with
  | mk h1 h2 h3 h4 h5 h6 h7 =>
  cases RI with
  | mk r1 r2 =>
  cases SX with
  | mk s1 s2 s3 =>
  dsimp only [buildBody, lawTail, lawDef, Challenge.pw_pq0456_01, fnBody, forBody, ifBody, nthS, lastS, tlS, hdS]
  k_steps
  (rename News h₀ L _ _ => N8)
  (rename Fr h₀ L _ _ => F8)
  exact On.out (wpAny _ _ _ _ _) (by walk_at "G on") (ret _ _ _ _ _ e1 _ _ tt1 (tt1, _) (x1, _) (d1, _) _ _ _ F8 (news_rot 0 4 9 (news_sw N8)) (nd_f (new := [(tt1, _), (x1, _), (d1, _)]) nd rfl l1 ⟨Nat.le_of_lt (Nat.lt_trans (Nat.lt_trans l2 l3) l4), Nat.le_of_lt l2, Nat.le_refl _, trivial⟩ 9 (Nat.le_of_lt (Nat.lt_trans l2 l3)) (three_ne l2 l3 l4)) (offs_new (new := [(tt1, instObj 0 0), (x1, instObj 0 0), (d1, instObj 0 0)]) nd rfl l1 ⟨Nat.le_of_lt (Nat.lt_trans (Nat.lt_trans l2 l3) l4), Nat.le_of_lt l2, Nat.le_refl _, trivial⟩) (.head _) (.mk (.tail _ (.head _)) (.tail _ (.tail _ (.head _)))) (by with_reducible assumption) (by with_reducible assumption) (by with_reducible assumption) ⟨V.src, V.des, V.sps, V.tbl, V.at', V.abv⟩ ⟨R.nam, R.rou⟩ hro rfl (fun y hy => if_neg hy))

theorem tb_g {w : World} {mean : ExcName → Option Value} {mg mb : Str → Option Value} {fa : Addr} {cd : Value} {h₀ : Heap} {L : Addr} {m : Str → Option Value} {im : Led} {s : Shared} {Q : Flow → Shared → Prop} {E : Value → Shared → Prop} {rest : List Stmt}
    {l q sl rl xe ye tb ra se : Addr} {ol oq oS oR oX oY oB ro oE : Obj} {g sp rt sx : Addr} {i ab : Nat} {tat ta tm : Tok} {num : Value} {fo : Nat} {tf : Tok} {kS : List (Str × Value)} {v1 : Addr} {t0 t1 t2 : Tok}
    (B : Below callerA h₀ [] h₀) (F : Fr h₀ L s.heap m) (X : (K0 w.params).In h₀) (N : News h₀ L s.heap ((l, ol) :: (q, oq) :: (sl, oS) :: (rl, oR) :: (xe, oX) :: (ye, oY) :: (tb, oB) :: (ra, ro) :: (se, oE) :: im)) (T : TT mean mg mb h₀)(nd : ND [l, q, sl, rl, xe, ye, tb, ra, se] im) (RI : RoutineIs w im rt (.ref sx)) (SX : Sx w im sx g se num) (hE : oE.IsDictOf (sk w) kS) (lE : (se == sysModules) = false) (vE : valueAt kS (Str.ofString "v") = some (.ref v1)) (hv : (v1, tupO [.str (Str.ofString "local") t0, .int 0 t1, .int 4 t2, .bool false]) ∈ im) (hf0 : 0 < fo) (V : Vs m l g sp tb i ab tat ta) (R : Vr m i rt tm) (hfo : m "form" = some (.int (fo : Int) tf))
    (ret : ∀ h' tk', Fr h₀ L h' m → News h₀ L h' ((l, ol) :: (q, oq) :: (sl, oS) :: (rl, oR) :: (xe, oX) :: (ye, oY) :: (tb, oB) :: (ra, ro) :: (se, oE) :: im) → wpAny (model Challenge.rw_pq0456_01.row.prog w) (callerA.deeper (envOf "law" lawScope L fa cd)) (execs (rest) (envOf "law" lawScope L fa cd)) Q E { s with heap := h', toks := tk' }) :
    wpAny (model Challenge.rw_pq0456_01.row.prog w) (callerA.deeper (envOf "law" lawScope L fa cd)) (execs (nthS 5 (ifBody (nthS 5 buildBody)) :: rest) (envOf "law" lawScope L fa cd)) Q E s := by
  revert B F X N T
  k_fill
  intro B F X N T
  have o9 := On.refl s
  cases RI with
  | mk r1 r2 =>
  cases SX with
  | mk s1 s2 s3 =>
  dsimp only [buildBody, lawTail, lawDef, Challenge.pw_pq0456_01, fnBody, forBody, ifBody, nthS, lastS, tlS, hdS]
  k_steps
  (rename News h₀ L _ _ => N8)
  (rename Fr h₀ L _ _ => F8)
  exact On.out (wpAny _ _ _ _ _) (by walk_at "G on") (ret _ _ F8 (news_rot 1 0 0 N8))

theorem tb_h {w : World} {mean : ExcName → Option Value} {mg mb : Str → Option Value} {fa : Addr} {cd : Value} {h₀ : Heap} {L : Addr} {m : Str → Option Value} {im : Led} {s : Shared} {Q : Flow → Shared → Prop} {E : Value → Shared → Prop} {rest : List Stmt}
    {l q sl rl xe ye tb : Addr} {ol oq oS oR oX oY oB : Obj} {g sp rt : Addr} {i ab : Nat} {tat ta tm : Tok} {kB : List (Str × Value)}
    (B : Below callerA h₀ [] h₀) (F : Fr h₀ L s.heap m) (X : (K0 w.params).In h₀) (N : News h₀ L s.heap ((l, ol) :: (q, oq) :: (sl, oS) :: (rl, oR) :: (xe, oX) :: (ye, oY) :: (tb, oB) :: im)) (T : TT mean mg mb h₀)(nd : ND [l, q, sl, rl, xe, ye, tb] im) (hB : oB.IsDictOf (sk w) kB) (zB : kB.length ≤ 10) (V : Vs m l g sp tb i ab tat ta) (R : Vr m i rt tm) (hro : m "rows" = some (.ref ra))
    (ret : ∀ h' tk' oB' tp ti, Fr h₀ L h' m → News h₀ L h' ((l, ol) :: (q, oq) :: (sl, oS) :: (rl, oR) :: (xe, oX) :: (ye, oY) :: (tb, oB') :: (tp, tupO [.int (ab : Int) ti, .ref ra]) :: im) → ND [l, q, sl, rl, xe, ye, tb] ((tp, tupO [.int (ab : Int) ti, .ref ra]) :: im) → Offs [tp] im → oB'.IsDictOf (sk w) (stored kB (nm i) (.ref tp)) → wpAny (model Challenge.rw_pq0456_01.row.prog w) (callerA.deeper (envOf "law" lawScope L fa cd)) (execs (rest) (envOf "law" lawScope L fa cd)) Q E { s with heap := h', toks := tk' }) :
    wpAny (model Challenge.rw_pq0456_01.row.prog w) (callerA.deeper (envOf "law" lawScope L fa cd)) (execs (nthS 6 buildBody :: rest) (envOf "law" lawScope L fa cd)) Q E s := by
  revert B F X N T
  k_fill
  intro B F X N T
  have o9 := On.refl s
  dsimp only [buildBody, lawTail, lawDef, Challenge.pw_pq0456_01, fnBody, forBody, ifBody, nthS, lastS, tlS, hdS]
  k_steps
  (rename News h₀ L _ _ => N8)
  (rename Fr h₀ L _ _ => F8)
  have pk := pack1 N8 nd (by with_reducible assumption) (by rfl)
  exact On.out (wpAny _ _ _ _ _) (by walk_at "G on") (ret _ _ _ _ _ F8 (news_rot 0 1 7 N8) pk.1 pk.2 (by with_reducible assumption))
structure Ext (own im im' : Led) : Prop where
  ex : ∃ pu, im' = pu ++ im ∧ Offs (pu.map (·.1)) (im ++ own)
theorem Ext.of {pu im own : Led} (o : Offs (pu.map (·.1)) (im ++ own)) : Ext own im (pu ++ im) := ⟨pu, rfl, o⟩
theorem Ext.rfl' {im own : Led} : Ext own im im := ⟨[], rfl, Offs.nil⟩
theorem Ext.sub {im im' own : Led} (e : Ext own im im') : ∀ p ∈ im, p ∈ im' := by
  obtain ⟨pu, rfl, -⟩ := e.ex
  exact fun p hp => List.mem_append_right _ hp
theorem Ext.trans {a b c own : Led} (e1 : Ext own a b) (e2 : Ext own b c) : Ext own a c := by
  obtain ⟨p1, rfl, o1⟩ := e1.ex
  obtain ⟨p2, rfl, o2⟩ := e2.ex
  rw [List.append_assoc] at o2
  exact ⟨p2 ++ p1, (List.append_assoc _ _ _).symm, by rw [List.map_append]; exact o1.app o2⟩
theorem kL {im own : Led} : ∀ p ∈ im, p ∈ im ++ own := fun _ h => List.mem_append_left _ h
theorem Ext.front {f1 f2 : List Addr} {y : Addr} {o : Obj} {T own : Led} (nd : ND (f1 ++ y :: f2) (T ++ own)) : Ext own T ((y, o) :: T) :=
  .of (pu := [(y, o)]) fun a ha => by
    rw [List.mem_singleton.mp ha]
    exact nd.off y (List.mem_append_right _ (.head _))
theorem Ext.one {f : List Addr} {u : Addr} {o : Obj} {T own : Led} (_ : ND f ((u, o) :: (T ++ own))) (off : Offs [u] (T ++ own)) : Ext own T ((u, o) :: T) := .of (pu := [(u, o)]) off
theorem Ext.two {f : List Addr} {u v : Addr} {o o' : Obj} {T own : Led} (_ : ND f ((v, o') :: (u, o) :: (T ++ own))) (off : Offs [v, u] (T ++ own)) : Ext own T ((v, o') :: (u, o) :: T) := .of (pu := [(v, o'), (u, o)]) off
theorem Ext.three {p1 p2 p3 : Addr × Obj} {T own : Led} (off : Offs [p1.1, p2.1, p3.1] (T ++ own)) : Ext own T (p1 :: p2 :: p3 :: T) := .of (pu := [p1, p2, p3]) off
theorem in3 {p1 p2 p3 : Addr × Obj} {T : Led} : ∀ p ∈ [p1, p2, p3], p ∈ p1 :: p2 :: p3 :: T := fun _ hp => List.mem_append_left T hp
section
variable {w : World} {C : Cx} {e : PySem.Expr} {kk : Nat} {p2 pos : Pos}
theorem te_gt {k j : Int} {u : Tok} (he : Ev w C e (.int k u)) : Te w C (.Compare e [.Gt] [.Constant (.int j) kk p2] pos) (decide (k > j)) :=
  ⟨fun A _ E s F N q => wpAny_isTrue_Compare1 (he.go A _ E s F N fun _ => wpAny_Constant_int (gt_int (wpAny_truthy_bool (q _))))⟩
theorem te_ne {k j : Int} {u : Tok} (he : Ev w C e (.int k u)) : Te w C (.Compare e [.NotEq] [.Constant (.int j) kk p2] pos) (k != j) :=
  ⟨fun A _ E s F N q => wpAny_isTrue_Compare1 (he.go A _ E s F N fun _ => wpAny_Constant_int (ne_int (wpAny_truthy_bool (q _))))⟩
end
section
variable {w : World} {led led' : Led} {fo : Nat} {k1 k2 k3 : List (Str × Value)} {x1 x3 : Rows} {g : Addr}
theorem XR.mono (X : XR led fo k1 x1) (k : ∀ p ∈ led, p ∈ led') : XR led' fo k1 x1 := by
  cases X with
  | yes a b => exact .yes (k _ a) (k _ b)
  | no a => exact .no a
theorem VR.mono (X : VR led fo k1 k2) (k : ∀ p ∈ led, p ∈ led') : VR led' fo k1 k2 := by
  cases X with
  | yes a => exact .yes (k _ a)
  | no a => exact .no a
theorem XR.v0 (X : XR led fo k1 x1) : valueAt k1 (Str.ofString "v") = none ∧ k1.length ≤ 10 ∧ x1.length ≤ 1 ∧ atKey x1 [Str.ofString "b"] = none ∧ ∀ t v, atKey (x1 ++ [([Str.ofString "b"], t, v)]) [Str.ofString "b", Str.ofString "y"] = none := by
  cases X with
  | yes a b => exact ⟨rfl, Nat.le_of_ble_eq_true rfl, Nat.le_refl 1, rfl, fun _ _ => rfl⟩
  | no a => exact ⟨rfl, Nat.le_of_ble_eq_true rfl, Nat.zero_le 1, rfl, fun _ _ => rfl⟩
theorem VR.b0 (X : XR led fo k1 x1) (V : VR led fo k1 k2) : valueAt k2 (Str.ofString "b") = none ∧ k2.length ≤ 10 := by
  cases X with
  | yes a b => cases V with
    | yes c => exact ⟨rfl, Nat.le_of_ble_eq_true rfl⟩
    | no c => exact ⟨rfl, Nat.le_of_ble_eq_true rfl⟩
  | no a => cases V with
    | yes c => exact ⟨rfl, Nat.le_of_ble_eq_true rfl⟩
    | no c => exact ⟨rfl, Nat.le_of_ble_eq_true rfl⟩
theorem look_v (X : XR led fo k1 x1) (V : VR led fo k1 k2) (B : BR w led g k2 x1 k3 x3) : fo = 0 ∨ ∃ v1 t0 t1 t2, valueAt k3 (Str.ofString "v") = some (.ref v1) ∧ (v1, tupO [.str (Str.ofString "local") t0, .int 0 t1, .int 4 t2, .bool false]) ∈ led := by
  cases V with
  | no c => exact .inl c
  | yes c => cases X with
    | yes a b => cases B with
      | yes => exact .inr ⟨_, _, _, _, rfl, c⟩
      | no => exact .inr ⟨_, _, _, _, rfl, c⟩
    | no a => cases B with
      | yes => exact .inr ⟨_, _, _, _, rfl, c⟩
      | no => exact .inr ⟨_, _, _, _, rfl, c⟩
theorem menu_all {P : List Str → Prop} (h1 : P ["x"]) (h2 : P ["b", "y"]) (h3 : P ["v"]) (h4 : P ["b"]) (h5 : P ["z"]) (h6 : P ["x", "y"]) : ∀ ps ∈ menu, P ps := by
  intro ps hp
  simp only [menu, List.mem_cons, List.mem_nil_iff, or_false] at hp
  rcases hp with rfl | rfl | rfl | rfl | rfl | rfl <;> assumption
theorem menu_no : ∀ ps ∈ menu, atKey ([] : Rows) ps = none := menu_all rfl rfl rfl rfl rfl rfl
theorem menu_of (X : XR led fo k1 x1) (V : VR led fo k1 k2) (B : BR w led g k2 x1 k3 x3) : ∀ ps ∈ menu, Ans w led g x3 k3 ps := by
  cases X with
  | yes h1 h2 => cases V with
    | yes h3 => cases B with
      | yes h4 h5 h6 h7 h8 => exact menu_all (.s1 (by rfl) h2 (by rfl) h1) (.s2 (by rfl) h8 (by rfl) h4 h6 (by rfl) h7) (.l1 (by rfl) (by rfl) h3) (.b1 (by rfl) h5 (by rfl) h4 h6) (.n1 (by rfl) (by rfl)) (.x2 (by rfl) (by rfl) h1)
      | no => exact menu_all (.s1 (by rfl) h2 (by rfl) h1) (.n2 (by rfl) (by rfl)) (.l1 (by rfl) (by rfl) h3) (.n1 (by rfl) (by rfl)) (.n1 (by rfl) (by rfl)) (.x2 (by rfl) (by rfl) h1)
    | no c => cases B with
      | yes h4 h5 h6 h7 h8 => exact menu_all (.s1 (by rfl) h2 (by rfl) h1) (.s2 (by rfl) h8 (by rfl) h4 h6 (by rfl) h7) (.n1 (by rfl) (by rfl)) (.b1 (by rfl) h5 (by rfl) h4 h6) (.n1 (by rfl) (by rfl)) (.x2 (by rfl) (by rfl) h1)
      | no => exact menu_all (.s1 (by rfl) h2 (by rfl) h1) (.n2 (by rfl) (by rfl)) (.n1 (by rfl) (by rfl)) (.n1 (by rfl) (by rfl)) (.n1 (by rfl) (by rfl)) (.x2 (by rfl) (by rfl) h1)
  | no f1 => cases V with
    | yes h3 => cases B with
      | yes h4 h5 h6 h7 h8 => exact menu_all (.n1 (by rfl) (by rfl)) (.s2 (by rfl) h8 (by rfl) h4 h6 (by rfl) h7) (.l1 (by rfl) (by rfl) h3) (.b1 (by rfl) h5 (by rfl) h4 h6) (.n1 (by rfl) (by rfl)) (.n2 (by rfl) (by rfl))
      | no => exact menu_all (.n1 (by rfl) (by rfl)) (.n2 (by rfl) (by rfl)) (.l1 (by rfl) (by rfl) h3) (.n1 (by rfl) (by rfl)) (.n1 (by rfl) (by rfl)) (.n2 (by rfl) (by rfl))
    | no f0 => exact absurd (f0.symm.trans f1) (by decide)
end
structure BS (w : World) (m : Str → Option Value) (im own : Led) (l q sl rl xe ye tb ra se g sp rt sx x : Addr) (i ab fo : Nat) (tat ta tm tf : Tok) (num : Value) : Prop where
  V : Vs m l g sp tb i ab tat ta
  R : Vr m i rt tm
  hro : m "rows" = some (.ref ra)
  hfo : m "form" = some (.int (fo : Int) tf)
  W : Wd w im g rl sl sp x xe ab
  RI : RoutineIs w im rt (.ref sx)
  SX : Sx w im sx g se num
  lE : (se == sysModules) = false
  hb1 : ab ≤ 1
  hf2 : fo ≤ 2
  nd : ND [l, q, sl, rl, xe, ye, tb, ra, se] (im ++ own)
theorem BS.ext {w : World} {m m' : Str → Option Value} {im im' own : Led} {l q sl rl xe ye tb ra se g sp rt sx x : Addr} {i ab fo : Nat} {tat ta tm tf : Tok} {num : Value} (b : BS w m im own l q sl rl xe ye tb ra se g sp rt sx x i ab fo tat ta tm tf num) (e : Ext own im im') (nd : ND [l, q, sl, rl, xe, ye, tb, ra, se] (im' ++ own)) (V : Vs m' l g sp tb i ab tat ta) (R : Vr m' i rt tm) (hro : m' "rows" = some (.ref ra)) (hfo : m' "form" = some (.int (fo : Int) tf)) : BS w m' im' own l q sl rl xe ye tb ra se g sp rt sx x i ab fo tat ta tm tf num :=
  ⟨V, R, hro, hfo, b.W.mono e.sub, b.RI.mono e.sub, b.SX.mono e.sub, b.lE, b.hb1, b.hf2, nd⟩
theorem bd_5 {w : World} {mean : ExcName → Option Value} {mg mb : Str → Option Value} {fa : Addr} {cd : Value} {h₀ : Heap} {L : Addr} {m : Str → Option Value} {im : Led} {s : Shared} {Q : Flow → Shared → Prop} {E : Value → Shared → Prop} {rest : List Stmt} {own : Led} {l q sl rl xe ye tb ra se x : Addr} {ol oq oR oX oY oB ro oE : Obj} {scs : List Value} {ns : Nat} {g sp rt sx : Addr} {i ab fo : Nat} {tat ta tm tf : Tok} {num : Value} {k1 k2 k3 : List (Str × Value)} {x1 x3 : Rows}
    (B : Below callerA h₀ [] h₀) (F : Fr h₀ L s.heap m) (X : (K0 w.params).In h₀) (N : News h₀ L s.heap ((l, ol) :: (q, oq) :: (sl, listOf scs.toArray ns) :: (rl, oR) :: (xe, oX) :: (ye, oY) :: (tb, oB) :: (ra, ro) :: (se, oE) :: (im ++ own))) (T : TT mean mg mb h₀) (b : BS w m im own l q sl rl xe ye tb ra se g sp rt sx x i ab fo tat ta tm tf num) (S : Src q ol oq) (xr : XR im fo k1 x1) (vr : VR im fo k1 k2) (br : BR w im g k2 x1 k3 x3) (hE : oE.IsDictOf (sk w) k3) (ro' : RowsO w im ro x3) (zx : x3.length ≤ 10)
    (ret : ∀ h' tk' m' ol' oq' (scs' : List Value) ns' ro' oE' kS xs im', Fr h₀ L h' m' → News h₀ L h' ((l, ol') :: (q, oq') :: (sl, listOf scs'.toArray ns') :: (rl, oR) :: (xe, oX) :: (ye, oY) :: (tb, oB) :: (ra, ro') :: (se, oE') :: (im' ++ own)) → Ext own im im' → BS w m' im' own l q sl rl xe ye tb ra se g sp rt sx x i ab fo tat ta tm tf num → Src q ol' oq' → (∀ ps ∈ menu, Ans w im' g xs kS ps) → oE'.IsDictOf (sk w) kS → RowsO w im' ro' xs → xs.length ≤ 10 → scs'.length ≤ scs.length + 0 → wpAny (model Challenge.rw_pq0456_01.row.prog w) (callerA.deeper (envOf "law" lawScope L fa cd)) (execs (rest) (envOf "law" lawScope L fa cd)) Q E { s with heap := h', toks := tk' }) :
    wpAny (model Challenge.rw_pq0456_01.row.prog w) (callerA.deeper (envOf "law" lawScope L fa cd)) (execs (nthS 5 (ifBody (nthS 5 buildBody)) :: rest) (envOf "law" lawScope L fa cd)) Q E s := by
  rcases look_v xr vr br with h0 | ⟨v1, t0, t1, t2, hv, mv⟩
  · refine s_if F N (b := false) (te_tw (tw_and_no ?_)) (.skip fun k => ret s.heap k m ol oq scs ns ro oE k3 x3 im F N .rfl' b S (menu_of xr vr br) hE ro' zx (Nat.le_refl _))
    subst h0
    exact te_gt (ev_name b.hfo)
  · rcases Nat.eq_zero_or_pos fo with h0 | h0
    · refine s_if F N (b := false) (te_tw (tw_and_no ?_)) (.skip fun k => ret s.heap k m ol oq scs ns ro oE k3 x3 im F N .rfl' b S (menu_of xr vr br) hE ro' zx (Nat.le_refl _))
      subst h0
      exact te_gt (ev_name b.hfo)
    · exact tb_g B F X N T b.nd (b.RI.mono kL) (b.SX.mono kL) hE b.lE hv (kL _ mv) h0 b.V b.R b.hfo fun h' tk' F' N' => ret h' tk' m ol oq scs ns ro oE k3 x3 im F' N' .rfl' b S (menu_of xr vr br) hE ro' zx (Nat.le_refl _)

theorem Sy.mono {w : World} {led led' : Led} {x g e : Addr} {num : Value} (S : Sy w led x g e num) (k : ∀ p ∈ led, p ∈ led') : Sy w led' x g e num := by
  cases S with
  | mk h1 h2 => exact .mk (k _ h1) (k _ h2)
theorem bd_4 {w : World} {mean : ExcName → Option Value} {mg mb : Str → Option Value} {fa : Addr} {cd : Value} {h₀ : Heap} {L : Addr} {m : Str → Option Value} {im : Led} {s : Shared} {Q : Flow → Shared → Prop} {E : Value → Shared → Prop} {rest : List Stmt} {own : Led} {l q sl rl xe ye tb ra se x : Addr} {ol oq oR oX oY oB ro oE : Obj} {scs : List Value} {ns : Nat} {g sp rt sx : Addr} {i ab fo : Nat} {tat ta tm tf : Tok} {num : Value} {k1 k2 : List (Str × Value)} {x1 : Rows}
    (B : Below callerA h₀ [] h₀) (F : Fr h₀ L s.heap m) (X : (K0 w.params).In h₀) (N : News h₀ L s.heap ((l, ol) :: (q, oq) :: (sl, listOf scs.toArray ns) :: (rl, oR) :: (xe, oX) :: (ye, oY) :: (tb, oB) :: (ra, ro) :: (se, oE) :: (im ++ own))) (T : TT mean mg mb h₀) (b : BS w m im own l q sl rl xe ye tb ra se g sp rt sx x i ab fo tat ta tm tf num) (S : Src q ol oq) (xr : XR im fo k1 x1) (vr : VR im fo k1 k2) (hE : oE.IsDictOf (sk w) k2) (ro' : RowsO w im ro x1) (hz : scs.length ≤ 100)
    (ret : ∀ h' tk' m' ol' oq' (scs' : List Value) ns' ro' oE' kS xs im', Fr h₀ L h' m' → News h₀ L h' ((l, ol') :: (q, oq') :: (sl, listOf scs'.toArray ns') :: (rl, oR) :: (xe, oX) :: (ye, oY) :: (tb, oB) :: (ra, ro') :: (se, oE') :: (im' ++ own)) → Ext own im im' → BS w m' im' own l q sl rl xe ye tb ra se g sp rt sx x i ab fo tat ta tm tf num → Src q ol' oq' → (∀ ps ∈ menu, Ans w im' g xs kS ps) → oE'.IsDictOf (sk w) kS → RowsO w im' ro' xs → xs.length ≤ 10 → scs'.length ≤ scs.length + 1 → wpAny (model Challenge.rw_pq0456_01.row.prog w) (callerA.deeper (envOf "law" lawScope L fa cd)) (execs (rest) (envOf "law" lawScope L fa cd)) Q E { s with heap := h', toks := tk' }) :
    wpAny (model Challenge.rw_pq0456_01.row.prog w) (callerA.deeper (envOf "law" lawScope L fa cd)) (execs (nthS 4 (ifBody (nthS 5 buildBody)) :: nthS 5 (ifBody (nthS 5 buildBody)) :: rest) (envOf "law" lawScope L fa cd)) Q E s := by
  have x0 := xr.v0
  have v0 := vr.b0 xr
  refine tb_b (body := [nthS 0 (ifBody (nthS 4 (ifBody (nthS 5 buildBody)))), nthS 1 (ifBody (nthS 4 (ifBody (nthS 5 buildBody)))), nthS 2 (ifBody (nthS 4 (ifBody (nthS 5 buildBody)))), nthS 3 (ifBody (nthS 4 (ifBody (nthS 5 buildBody))))]) B F X N T b.nd (by rfl) S b.V b.R (fun h1 tk1 ol1 oq1 K F1 N1 S1 hK => ?_) (fun h1 tk1 ol1 oq1 F1 N1 S1 => ?_)
  · refine tb_c B F1 X N1 T b.nd (b.W.mono kL) (b.RI.mono kL) (b.SX.mono kL) hz hE b.lE v0.1 v0.2 b.V b.R b.hro fun h2 tk2 m2 oE2 bx be ob v tt p1 p2 p3 ts nb tn F2 N2 nd2 off2 mtt sy hob lob hE2 V2 R2 hro2 hbl2 keep2 => ?_
    have e2 := Ext.three off2
    refine tb_d B F2 X N2 T nd2 hbl2 ro' (fun p hp => kL (own := own) _ (e2.sub p hp)) x0.2.2.2.1 (Nat.le_trans x0.2.2.1 (by decide)) V2 R2 hro2 b.hb1 fun h3 tk3 ro3 kt vt k0 t0 F3 N3 nd3 off3 RO3 => ?_
    have e3 := Ext.two (T := p1 :: p2 :: p3 :: im) nd3 off3
    refine tb_e B F3 X N3 T nd3 (sy.mono fun p hp => kL (own := own) _ (e3.sub _ (in3 p hp))) hbl2 hob lob rfl (Nat.zero_le _) V2 R2 b.hb1 fun h4 tk4 ob4 u t1 t2 F4 N4 nd4 off4 hob4 => ?_
    have e4 := Ext.one (T := (kt, _) :: (vt, _) :: p1 :: p2 :: p3 :: im) nd4 off4
    refine tb_f B F4 X N4 T nd4 RO3 (fun p hp => kL (own := own) _ ((List.mem_cons.mp hp).elim (fun e => .tail _ (e ▸ .head _)) fun hp => e4.sub p (e3.sub p (e2.sub p hp)))) (x0.2.2.2.2 _ _) (by rw [List.length_append]; exact Nat.le_trans (Nat.add_le_add_right x0.2.2.1 _) (Nat.le_of_ble_eq_true rfl)) V2 R2 hro2 b.hb1 fun h5 tk5 ro5 kt5 vt5 k5 k6 t3 t4 F5 N5 nd5 off5 RO5 => wpAny_execs_nil (hK.next _ ?_)
    have e5 := Ext.two (T := (u, _) :: (kt, _) :: (vt, _) :: p1 :: p2 :: p3 :: im) nd5 off5
    have e6 := Ext.front (T := (kt5, _) :: (vt5, _) :: (u, _) :: (kt, _) :: (vt, _) :: p1 :: p2 :: p3 :: im) (o := ob4) (f1 := [l, q, sl, rl, xe, ye, tb, ra, se]) (f2 := []) nd5
    have e36 := e3.trans (e4.trans (e5.trans e6))
    have e := e2.trans e36
    refine bd_5 B F5 X N5 T (b.ext e (nd_mv (f1 := [l, q, sl, rl, xe, ye, tb, ra, se]) (f2 := []) nd5) V2 R2 hro2 ((keep2 _ (by decide)).trans b.hfo)) S1 (xr.mono e.sub) (vr.mono e.sub) (.yes (e36.sub _ (in3 _ mtt)) (.tail _ (.tail _ (.tail _ (.tail _ (.tail _ (.head _)))))) (sy.is (fun p hp => e36.sub _ (in3 p hp)) (.head _) hob4 lob) (.tail _ (.tail _ (.tail _ (.head _)))) (.tail _ (.tail _ (.head _)))) hE2 (RO5.mono fun p hp => ?_) (by simp only [List.length_append, List.length_cons, List.length_nil]; have := x0.2.2.1; omega)
      fun h' tk' m' ol' oq' scs' ns' ro' oE' kS xs im' F' N' e' b' S' a1 a2 a3 a4 a5 => ret h' tk' m' ol' oq' scs' ns' ro' oE' kS xs im' F' N' (e.trans e') b' S' a1 a2 a3 a4 (by simpa using a5)
    rcases List.mem_cons.mp hp with rfl | hp
    · exact .tail _ (.head _)
    rcases List.mem_cons.mp hp with rfl | hp
    · exact .tail _ (.tail _ (.tail _ (.tail _ (.head _))))
    · exact e.sub p hp
  · exact bd_5 B F1 X N1 T b S1 xr vr .no hE ro' (Nat.le_trans x0.2.2.1 (by decide)) fun h' tk' m' ol' oq' scs' ns' ro' oE' kS xs im' F' N' e' b' S' a1 a2 a3 a4 a5 => ret h' tk' m' ol' oq' scs' ns' ro' oE' kS xs im' F' N' e' b' S' a1 a2 a3 a4 (Nat.le_succ_of_le a5)
theorem bd_3 {w : World} {mean : ExcName → Option Value} {mg mb : Str → Option Value} {fa : Addr} {cd : Value} {h₀ : Heap} {L : Addr} {m : Str → Option Value} {im : Led} {s : Shared} {Q : Flow → Shared → Prop} {E : Value → Shared → Prop} {rest : List Stmt} {own : Led} {l q sl rl xe ye tb ra se x : Addr} {ol oq oR oX oY oB ro oE : Obj} {scs : List Value} {ns : Nat} {g sp rt sx : Addr} {i ab fo : Nat} {tat ta tm tf : Tok} {num : Value} {k1 : List (Str × Value)} {x1 : Rows}
    (B : Below callerA h₀ [] h₀) (F : Fr h₀ L s.heap m) (X : (K0 w.params).In h₀) (N : News h₀ L s.heap ((l, ol) :: (q, oq) :: (sl, listOf scs.toArray ns) :: (rl, oR) :: (xe, oX) :: (ye, oY) :: (tb, oB) :: (ra, ro) :: (se, oE) :: (im ++ own))) (T : TT mean mg mb h₀) (b : BS w m im own l q sl rl xe ye tb ra se g sp rt sx x i ab fo tat ta tm tf num) (S : Src q ol oq) (xr : XR im fo k1 x1) (hE : oE.IsDictOf (sk w) k1) (ro' : RowsO w im ro x1) (hz : scs.length ≤ 100)
    (ret : ∀ h' tk' m' ol' oq' (scs' : List Value) ns' ro' oE' kS xs im', Fr h₀ L h' m' → News h₀ L h' ((l, ol') :: (q, oq') :: (sl, listOf scs'.toArray ns') :: (rl, oR) :: (xe, oX) :: (ye, oY) :: (tb, oB) :: (ra, ro') :: (se, oE') :: (im' ++ own)) → Ext own im im' → BS w m' im' own l q sl rl xe ye tb ra se g sp rt sx x i ab fo tat ta tm tf num → Src q ol' oq' → (∀ ps ∈ menu, Ans w im' g xs kS ps) → oE'.IsDictOf (sk w) kS → RowsO w im' ro' xs → xs.length ≤ 10 → scs'.length ≤ scs.length + 1 → wpAny (model Challenge.rw_pq0456_01.row.prog w) (callerA.deeper (envOf "law" lawScope L fa cd)) (execs (rest) (envOf "law" lawScope L fa cd)) Q E { s with heap := h', toks := tk' }) :
    wpAny (model Challenge.rw_pq0456_01.row.prog w) (callerA.deeper (envOf "law" lawScope L fa cd)) (execs (nthS 3 (ifBody (nthS 5 buildBody)) :: nthS 4 (ifBody (nthS 5 buildBody)) :: nthS 5 (ifBody (nthS 5 buildBody)) :: rest) (envOf "law" lawScope L fa cd)) Q E s := by
  rcases Nat.eq_zero_or_pos fo with h0 | h0
  · refine s_if F N (b := false) ?_ (.skip fun k => bd_4 B F X N T b S xr (.no h0) hE ro' hz ret)
    subst h0
    exact te_gt (ev_name b.hfo)
  · refine s_if F N (b := true) ?_ (.tt fun K hK k => ?_)
    · rw [show true = decide ((fo : Int) > 0) from (decide_eq_true (Int.ofNat_lt.mpr h0)).symm]
      exact te_gt (ev_name b.hfo)
    have x0 := xr.v0
    refine tb_9 B F X N T b.nd (b.RI.mono kL) (b.SX.mono kL) hE b.lE x0.1 x0.2.1 b.V b.R b.hb1 fun h1 tk1 oE1 u t0 t1 t2 F1 N1 nd1 off1 hE1 => wpAny_execs_nil (hK.next _ ?_)
    have e := Ext.one nd1 off1
    exact bd_4 B F1 X N1 T (b.ext e nd1 b.V b.R b.hro b.hfo) S (xr.mono e.sub) (.yes (.head _)) hE1 (ro'.mono e.sub) hz
      fun h' tk' m' ol' oq' scs' ns' ro' oE' kS xs im' F' N' e' b' S' a1 a2 a3 a4 a5 => ret h' tk' m' ol' oq' scs' ns' ro' oE' kS xs im' F' N' (e.trans e') b' S' a1 a2 a3 a4 a5
theorem bd_2 {w : World} {mean : ExcName → Option Value} {mg mb : Str → Option Value} {fa : Addr} {cd : Value} {h₀ : Heap} {L : Addr} {m : Str → Option Value} {im : Led} {s : Shared} {Q : Flow → Shared → Prop} {E : Value → Shared → Prop} {rest : List Stmt} {own : Led} {l q sl rl xe ye tb ra se x : Addr} {ol oq oR oX oY oB ro oE : Obj} {scs : List Value} {ns : Nat} {g sp rt sx : Addr} {i ab fo : Nat} {tat ta tm tf : Tok} {num : Value}
    (B : Below callerA h₀ [] h₀) (F : Fr h₀ L s.heap m) (X : (K0 w.params).In h₀) (N : News h₀ L s.heap ((l, ol) :: (q, oq) :: (sl, listOf scs.toArray ns) :: (rl, oR) :: (xe, oX) :: (ye, oY) :: (tb, oB) :: (ra, ro) :: (se, oE) :: (im ++ own))) (T : TT mean mg mb h₀) (b : BS w m im own l q sl rl xe ye tb ra se g sp rt sx x i ab fo tat ta tm tf num) (S : Src q ol oq) (hE : oE.IsDictOf (sk w) []) (ro' : RowsO w im ro []) (hz : scs.length ≤ 100)
    (ret : ∀ h' tk' m' ol' oq' (scs' : List Value) ns' ro' oE' kS xs im', Fr h₀ L h' m' → News h₀ L h' ((l, ol') :: (q, oq') :: (sl, listOf scs'.toArray ns') :: (rl, oR) :: (xe, oX) :: (ye, oY) :: (tb, oB) :: (ra, ro') :: (se, oE') :: (im' ++ own)) → Ext own im im' → BS w m' im' own l q sl rl xe ye tb ra se g sp rt sx x i ab fo tat ta tm tf num → Src q ol' oq' → (∀ ps ∈ menu, Ans w im' g xs kS ps) → oE'.IsDictOf (sk w) kS → RowsO w im' ro' xs → xs.length ≤ 10 → scs'.length ≤ scs.length + 1 → wpAny (model Challenge.rw_pq0456_01.row.prog w) (callerA.deeper (envOf "law" lawScope L fa cd)) (execs (rest) (envOf "law" lawScope L fa cd)) Q E { s with heap := h', toks := tk' }) :
    wpAny (model Challenge.rw_pq0456_01.row.prog w) (callerA.deeper (envOf "law" lawScope L fa cd)) (execs (nthS 2 (ifBody (nthS 5 buildBody)) :: nthS 3 (ifBody (nthS 5 buildBody)) :: nthS 4 (ifBody (nthS 5 buildBody)) :: nthS 5 (ifBody (nthS 5 buildBody)) :: rest) (envOf "law" lawScope L fa cd)) Q E s := by
  by_cases h0 : fo = 1
  · refine s_if F N (b := false) ?_ (.skip fun k => bd_3 B F X N T b S (.no h0) hE ro' hz ret)
    subst h0
    exact te_ne (ev_name b.hfo)
  · refine s_if F N (b := true) ?_ (.tt fun K hK k => ?_)
    · rw [show true = ((fo : Int) != 1) from (by simp; omega)]
      exact te_ne (ev_name b.hfo)
    refine tb_7 B F X N T b.nd (b.RI.mono kL) (b.SX.mono kL) hE b.lE rfl (Nat.zero_le _) b.V b.R b.hb1 fun h1 tk1 oE1 u t0 t1 F1 N1 nd1 off1 hE1 => ?_
    have e1 := Ext.one nd1 off1
    refine tb_8 B F1 X N1 T nd1 ro' (fun p hp => kL (own := own) _ (e1.sub p hp)) rfl (Nat.zero_le _) b.V b.R b.hro b.hb1 fun h2 tk2 ro2 kt vt k0 t2 t3 F2 N2 nd2 off2 RO2 => wpAny_execs_nil (hK.next _ ?_)
    have e2 := Ext.two (T := (u, _) :: im) nd2 off2
    have e := e1.trans e2
    exact bd_3 B F2 X N2 T (b.ext e nd2 b.V b.R b.hro b.hfo) S (.yes (.tail _ (.tail _ (.head _))) (.tail _ (.head _))) hE1 (RO2.mono fun p hp => (List.mem_cons.mp hp).elim (fun e => e ▸ .head _) fun hp => e.sub p hp) hz
      fun h' tk' m' ol' oq' scs' ns' ro' oE' kS xs im' F' N' e' b' S' a1 a2 a3 a4 a5 => ret h' tk' m' ol' oq' scs' ns' ro' oE' kS xs im' F' N' (e.trans e') b' S' a1 a2 a3 a4 a5

theorem bd_0 {w : World} {mean : ExcName → Option Value} {mg mb : Str → Option Value} {fa : Addr} {cd : Value} {h₀ : Heap} {L : Addr} {m : Str → Option Value} {im : Led} {s : Shared} {Q : Flow → Shared → Prop} {E : Value → Shared → Prop} {rest : List Stmt} {own : Led} {l q sl rl xe ye tb ra rd x : Addr} {ol oq oR oX oY oB ro : Obj} {scs : List Value} {ns : Nat} {g sp rt : Addr} {i ab : Nat} {tat ta tm : Tok} {t' : Nat → Tok} {v0 v1 v2 v3 v4 v5 v6 v7 v8 v9 v10 v11 v12 v13 : Value} {n' : Nat}
    (B : Below callerA h₀ [] h₀) (F : Fr h₀ L s.heap m) (X : (K0 w.params).In h₀) (N : News h₀ L s.heap ((l, ol) :: (q, oq) :: (sl, listOf scs.toArray ns) :: (rl, oR) :: (xe, oX) :: (ye, oY) :: (tb, oB) :: (ra, ro) :: (rd, dictOf (routineEs w.params t' v0 v1 v2 v3 v4 v5 v6 v7 v8 v9 v10 v11 v12 v13) n') :: (im ++ own))) (T : TT mean mg mb h₀)
    (nd : ND [l, q, sl, rl, xe, ye, tb, ra, rd] (im ++ own)) (S : Src q ol oq) (W : Wd w im g rl sl sp x xe ab) (hr : (rt, instObj 155 rd) ∈ im) (hz : scs.length ≤ 50) (V : Vs m l g sp tb i ab tat ta) (R : Vr m i rt tm) (hro : m "rows" = some (.ref ra)) (lra : (ra == sysModules) = false) (hb1 : ab ≤ 1) (hd : ro.IsDictOf (sk w) [])
    (ret : ∀ h' tk' m' ol' oq' (scs' : List Value) ns' xs im', Fr h₀ L h' m' → News h₀ L h' ((l, ol') :: (q, oq') :: (sl, listOf scs'.toArray ns') :: (rl, oR) :: (xe, oX) :: (ye, oY) :: (tb, oB) :: (im' ++ own)) → ND [l, q, sl, rl, xe, ye, tb] (im' ++ own) → Ext own im im' → Src q ol' oq' → QRec w im' g rt ra xs → xs.length ≤ 10 → scs'.length ≤ scs.length + 2 → Vs m' l g sp tb i ab tat ta → Vr m' i rt tm → m' "rows" = some (.ref ra) → wpAny (model Challenge.rw_pq0456_01.row.prog w) (callerA.deeper (envOf "law" lawScope L fa cd)) (execs (rest) (envOf "law" lawScope L fa cd)) Q E { s with heap := h', toks := tk' }) :
    wpAny (model Challenge.rw_pq0456_01.row.prog w) (callerA.deeper (envOf "law" lawScope L fa cd)) (execs (nthS 0 (ifBody (nthS 5 buildBody)) :: nthS 1 (ifBody (nthS 5 buildBody)) :: nthS 2 (ifBody (nthS 5 buildBody)) :: nthS 3 (ifBody (nthS 5 buildBody)) :: nthS 4 (ifBody (nthS 5 buildBody)) :: nthS 5 (ifBody (nthS 5 buildBody)) :: rest) (envOf "law" lawScope L fa cd)) Q E s := by
  refine tb_4 B F X N T nd (W.mono kL) (kL _ hr) (Nat.le_trans hz (by decide)) V R hb1 fun h1 tk1 sx se oE v p1 p2 p3 num tn F1 N1 nd1 off1 RI1 SX1 hE1 lE1 => ?_
  have e1 := Ext.three off1
  refine tb_5 B F1 X N1 T nd1 rfl S V R hro fun h2 tk2 m2 ol2 oq2 fo tf F2 N2 S2 hf2 V2 R2 hro2 hfo2 => ?_
  refine bd_2 B F2 X N2 T ⟨V2, R2, hro2, hfo2, W.mono e1.sub, RI1 _ in3 (e1.sub _ hr), SX1.mono in3, lE1, hb1, hf2, nd1⟩ S2 hE1 ((RowsO.nil hd).mono fun _ h => nomatch h) (by rw [List.length_append]; exact Nat.le_trans (Nat.add_le_add_right hz 1) (by decide)) fun h' tk' m' ol' oq' scs' ns' ro' oE' kS xs im' F' N' e' b' S' a1 a2 a3 a4 a5 => ?_
  have n2 := nd_mv (o := oE') (f1 := [l, q, sl, rl, xe, ye, tb, ra]) (f2 := []) b'.nd
  have n3 := nd_mv (o := ro') (f1 := [l, q, sl, rl, xe, ye, tb]) (f2 := []) n2
  have e4 := Ext.front (T := im') (o := oE') (f1 := [l, q, sl, rl, xe, ye, tb, ra]) (f2 := []) b'.nd
  have e5 := Ext.front (T := (se, oE') :: im') (o := ro') (f1 := [l, q, sl, rl, xe, ye, tb]) (f2 := []) n2
  have e45 := e4.trans e5
  refine ret h' tk' m' ol' oq' scs' ns' xs ((ra, ro') :: (se, oE') :: im') F' N' n3 (e1.trans (e'.trans e45)) S' (.full (b'.RI.mono e45.sub) ((b'.SX.mono e45.sub).is (.tail _ (.head _)) a2 lE1) (.head _) (a3.mono e45.sub) lra fun ps hp => (a1 ps hp).mono e45.sub) a4 ?_ b'.V b'.R b'.hro
  rw [List.length_append] at a5
  exact a5
theorem turn_B {w : World} {mean : ExcName → Option Value} {mg mb : Str → Option Value} {fa : Addr} {cd : Value} {h₀ : Heap} {L : Addr} {m : Str → Option Value} {im : Led} {s : Shared} {Q : Flow → Shared → Prop} {E : Value → Shared → Prop} {rest : List Stmt} {own : Led} {l q sl rl xe ye tb x : Addr} {ol oq oX oY oB : Obj} {rts scs : List Value} {nr ns : Nat} {g sp : Addr} {i ab : Nat} {tat ta : Tok} {kX kB : List (Str × Value)}
    (B : Below callerA h₀ [] h₀) (F : Fr h₀ L s.heap m) (X : (K0 w.params).In h₀) (N : News h₀ L s.heap ((l, ol) :: (q, oq) :: (sl, listOf scs.toArray ns) :: (rl, listOf rts.toArray nr) :: (xe, oX) :: (ye, oY) :: (tb, oB) :: (im ++ own))) (T : TT mean mg mb h₀)
    (nd : ND [l, q, sl, rl, xe, ye, tb] (im ++ own)) (S : Src q ol oq) (W : Wd w im g rl sl sp x xe ab) (V : Vs m l g sp tb i ab tat ta) (hb1 : ab ≤ 1) (hi : i < 3) (hzr : rts.length ≤ 10) (hz : scs.length ≤ 50)
    (hX : oX.IsDictOf (sk w) kX) (lX : (xe == sysModules) = false) (vX : valueAt kX (nm i) = none) (zX : kX.length ≤ 10) (hB : oB.IsDictOf (sk w) kB) (zB : kB.length ≤ 10)
    (ret : ∀ h' tk' m' ol' oq' oX' oB' rt u tp ra tu ti ti' (xs : Rows) (scs' : List Value) ns' im', Fr h₀ L h' m' → News h₀ L h' ((l, ol') :: (q, oq') :: (sl, listOf scs'.toArray ns') :: (rl, listOf (rts ++ [Value.ref rt]).toArray (nr + 1)) :: (xe, oX') :: (ye, oY) :: (tb, oB') :: (im' ++ own)) → ND [l, q, sl, rl, xe, ye, tb] (im' ++ own) → Ext own im im' → Src q ol' oq' →
      oX'.IsDictOf (sk w) (stored kX (nm i) (.ref u)) → (u, tupO [.str (Str.ofString "routine") tu, .int (rts.length : Int) ti]) ∈ im' → oB'.IsDictOf (sk w) (stored kB (nm i) (.ref tp)) → (tp, tupO [.int (ab : Int) ti', .ref ra]) ∈ im' → QRec w im' g rt ra xs → xs.length ≤ 10 → scs'.length ≤ scs.length + 2 → Vs m' l g sp tb i ab tat ta → wpAny (model Challenge.rw_pq0456_01.row.prog w) (callerA.deeper (envOf "law" lawScope L fa cd)) (execs (rest) (envOf "law" lawScope L fa cd)) Q E { s with heap := h', toks := tk' }) :
    wpAny (model Challenge.rw_pq0456_01.row.prog w) (callerA.deeper (envOf "law" lawScope L fa cd)) (execs (nthS 1 buildBody :: nthS 2 buildBody :: nthS 3 buildBody :: nthS 4 buildBody :: nthS 5 buildBody :: nthS 6 buildBody :: rest) (envOf "law" lawScope L fa cd)) Q E s := by
  refine tb_1 B F X N T nd S (W.mono kL) hi (Nat.le_trans hzr (by decide)) V hb1 fun h1 tk1 m1 ol1 oq1 rt rd t1 tn1 tm path isf aut at' wid p1 s1 dis n1 F1 N1 nd1 off1 S1 V1 R1 => ?_
  have e1 : Ext own im ((rt, instObj 155 rd) :: im) := .of (pu := [(rt, _)]) (off1.sub fun p hp => List.mem_append_left [rd] hp)
  refine tb_2 B F1 X N1 T nd1 ((W.mono e1.sub).mono kL) (.head _) hX lX vX zX V1 R1 hb1 fun h2 tk2 oX2 u tu ti F2 N2 nd2 off2 hX2 => ?_
  have e2 := Ext.one (T := (rt, instObj 155 rd) :: im) nd2 off2
  have e12 := e1.trans e2
  refine tb_3 B F2 X N2 T nd2 V1 R1 fun h3 tk3 m3 ra ro F3 N3 nd3 off3 lra hro V3 R3 hro3 => ?_
  refine tb_6 (body := [nthS 0 (ifBody (nthS 5 buildBody)), nthS 1 (ifBody (nthS 5 buildBody)), nthS 2 (ifBody (nthS 5 buildBody)), nthS 3 (ifBody (nthS 5 buildBody)), nthS 4 (ifBody (nthS 5 buildBody)), nthS 5 (ifBody (nthS 5 buildBody))]) B F3 X N3 T nd3 (by rfl) S1 V3 R3 (fun h4 tk4 ol4 oq4 K F4 N4 S4 hK => ?_) (fun h4 tk4 ol4 oq4 F4 N4 S4 => ?_)
  · refine bd_0 (im := (u, _) :: (rt, instObj 155 rd) :: im) B F4 X N4 T nd3 S4 (W.mono e12.sub) (.tail _ (.head _)) hz V3 R3 hro3 lra hb1 hro fun h5 tk5 m5 ol5 oq5 scs5 ns5 xs im5 F5 N5 nd5 e5 S5 Q5 z5 zs5 V5 R5 hro5 => wpAny_execs_nil (hK.next _ ?_)
    refine tb_h B F5 X N5 T nd5 hB zB V5 R5 hro5 fun h6 tk6 oB6 tp ti6 F6 N6 nd6 off6 hB6 => ?_
    have e6 := Ext.one (T := im5) nd6 off6
    exact ret h6 tk6 m5 ol5 oq5 oX2 oB6 rt u tp ra tu ti ti6 xs scs5 ns5 _ F6 N6 nd6 (e12.trans (e5.trans e6)) S5 hX2 (e6.sub _ (e5.sub _ (.head _))) hB6 (.head _) (Q5.mono e6.sub) z5 zs5 V5
  · have n2 := nd_mv (o := dictOf (routineEs w.params t1 (.int (rts.length : Int) tn1) path isf aut at' wid (.bool false) p1 s1 .none .none .none dis (.bool false)) n1) (f1 := [l, q, sl, rl, xe, ye, tb, ra]) (f2 := []) nd3
    have n3 := nd_mv (o := ro) (f1 := [l, q, sl, rl, xe, ye, tb]) (f2 := []) n2
    have e4 := Ext.front (T := (u, _) :: (rt, instObj 155 rd) :: im) (o := dictOf (routineEs w.params t1 (.int (rts.length : Int) tn1) path isf aut at' wid (.bool false) p1 s1 .none .none .none dis (.bool false)) n1) (f1 := [l, q, sl, rl, xe, ye, tb, ra]) (f2 := []) nd3
    have e5 := Ext.front (T := (rd, _) :: (u, _) :: (rt, instObj 155 rd) :: im) (o := ro) (f1 := [l, q, sl, rl, xe, ye, tb]) (f2 := []) n2
    refine tb_h B F4 X N4 T n3 hB zB V3 R3 hro3 fun h6 tk6 oB6 tp ti6 F6 N6 nd6 off6 hB6 => ?_
    have e6 := Ext.one (T := (ra, ro) :: (rd, _) :: (u, _) :: (rt, instObj 155 rd) :: im) nd6 off6
    exact ret h6 tk6 m3 ol4 oq4 oX2 oB6 rt u tp ra tu ti ti6 [] scs ns _ F6 N6 nd6 (e12.trans (e4.trans (e5.trans e6))) S4 hX2 (.tail _ (.tail _ (.tail _ (.head _)))) hB6 (.head _)
      (.bare (.mk (.tail _ (.tail _ (.tail _ (.tail _ (.head _))))) (.tail _ (.tail _ (.head _)))) (.tail _ (.head _)) ((RowsO.nil hro).mono fun _ h => nomatch h) lra menu_no) (Nat.zero_le _) (Nat.le_add_right _ _) V3
theorem stored_new {kvs : List (Str × Value)} {k : Str} {v : Value} (h : valueAt kvs k = none) : stored kvs k v = kvs ++ [(k, v)] := by
  unfold stored
  rw [if_neg]
  intro ha
  rw [List.any_eq_true] at ha
  obtain ⟨x, hx, he⟩ := ha
  unfold valueAt at h
  rw [Option.map_eq_none_iff, List.find?_eq_none] at h
  exact h x hx he
theorem stored_same {kvs : List (Str × Value)} {k : Str} {v : Value} (h : valueAt kvs k = none) : valueAt (stored kvs k v) k = some v := by
  rw [stored_new h]
  unfold valueAt at h ⊢
  rw [Option.map_eq_none_iff] at h
  rw [List.find?_append, h]
  simp
theorem stored_other {kvs : List (Str × Value)} {k k' : Str} {v : Value} (h : valueAt kvs k = none) (hne : k ≠ k') : valueAt (stored kvs k v) k' = valueAt kvs k' := by
  rw [stored_new h]
  unfold valueAt
  rw [List.find?_append]
  cases kvs.find? (fun kv => kv.1 = k') <;> simp [hne]
theorem stored_len {kvs : List (Str × Value)} {k : Str} {v : Value} (h : valueAt kvs k = none) : (stored kvs k v).length = kvs.length + 1 := by
  rw [stored_new h]; simp
theorem ND.sub {f : List Addr} {im im' : Led} (n : ND f im') (k : ∀ p ∈ im, p ∈ im') : ND f im := ⟨n.nd, fun a ha p hp => n.off a ha p (k p hp)⟩
theorem ND.sw {a b c d e f g : Addr} {im : Led} (n : ND [a, b, c, d, e, f, g] im) : ND [a, b, c, d, f, e, g] im :=
  have hs : [a, b, c, d, e, f, g].Perm [a, b, c, d, f, e, g] := .cons _ (.cons _ (.cons _ (.cons _ (.swap _ _ _))))
  ⟨hs.nodup_iff.mp n.nd, fun x hx => n.off x (hs.mem_iff.mpr hx)⟩
theorem swap56 {a b c d e f : Addr × Obj} {r : Led} : ∀ p ∈ a :: b :: c :: d :: f :: e :: r, p ∈ a :: b :: c :: d :: e :: f :: r :=
  fun _ hp => (List.Perm.cons _ (.cons _ (.cons _ (.cons _ (.swap _ _ _))))).mem_iff.mp hp
structure BJ (w : World) (l q rl sl te ie tb g tx ix sp : Addr) (nsp i : Nat) (ol oq oT oI oB : Obj) (kT kI kB : List (Str × Value)) (rts scs : List Value) (im : Led) : Prop where
  S : Src q ol oq
  nd : ND [l, q, sl, rl, te, ie, tb] im
  D : DesignIs w im g rl sl
  H : TopIs w im g tx te
  I : InnIs w im g tx ix ie
  msp : (sp, listOf #[.ref tx, .ref ix] nsp) ∈ im
  hT : oT.IsDictOf (sk w) kT
  hI : oI.IsDictOf (sk w) kI
  hB : oB.IsDictOf (sk w) kB
  zT : kT.length ≤ 1 + i
  zI : kI.length ≤ 1 + i
  zB : kB.length = i
  zr : rts.length = i
  zs : scs.length ≤ 2 + 2 * i
  R : ∀ j < i, RoutAt w im g rts kT kI kB j
  nT : ∀ j, i ≤ j → j < 3 → valueAt kT (nm j) = none
  nI : ∀ j, i ≤ j → j < 3 → valueAt kI (nm j) = none
  nB : ∀ j, i ≤ j → j < 3 → valueAt kB (nm j) = none
section
variable {w : World} {l q rl sl te ie tb g tx ix sp : Addr} {nsp i : Nat} {ol oq oT oI oB ol2 oq2 oX oB2 : Obj} {kT kI kB : List (Str × Value)} {rts scs scs2 : List Value} {im im' own : Led} {ab : Nat} {rt u tp ra : Addr} {tu ti ta : Tok} {xs : Rows}
theorem BJ.src (J : BJ w l q rl sl te ie tb g tx ix sp nsp i ol oq oT oI oB kT kI kB rts scs im) (S2 : Src q ol2 oq2) : BJ w l q rl sl te ie tb g tx ix sp nsp i ol2 oq2 oT oI oB kT kI kB rts scs im :=
  { J with S := S2 }
theorem BJ.step (J : BJ w l q rl sl te ie tb g tx ix sp nsp i ol oq oT oI oB kT kI kB rts scs im) (hi : i < 3) (hab : ab ≤ 1) (S2 : Src q ol2 oq2) (nd : ND [l, q, sl, rl, te, ie, tb] im') (k : ∀ p ∈ im, p ∈ im')
    (hX : oX.IsDictOf (sk w) (stored (if ab = 0 then kT else kI) (nm i) (.ref u))) (mu : (u, tupO [.str (Str.ofString "routine") tu, .int (rts.length : Int) ti]) ∈ im') (hB2 : oB2.IsDictOf (sk w) (stored kB (nm i) (.ref tp))) (mtp : (tp, tupO [.int (ab : Int) ta, .ref ra]) ∈ im')
    (hxs : xs.length ≤ 10) (hs : scs2.length ≤ scs.length + 2) (Q : QRec w im' g rt ra xs) :
    BJ w l q rl sl te ie tb g tx ix sp nsp (i + 1) ol2 oq2 (if ab = 0 then oX else oT) (if ab = 0 then oI else oX) oB2 (if ab = 0 then stored kT (nm i) (.ref u) else kT) (if ab = 0 then kI else stored kI (nm i) (.ref u)) (stored kB (nm i) (.ref tp)) (rts ++ [.ref rt]) scs2 im' := by
  have vT := J.nT i (Nat.le_refl _) hi
  have vI := J.nI i (Nat.le_refl _) hi
  have vB := J.nB i (Nat.le_refl _) hi
  have zT := J.zT
  have zI := J.zI
  have zs := J.zs
  have zr := J.zr
  have oth : ∀ j, j < 3 → j ≠ i → nm i ≠ nm j := fun j hj hne => nm_inj i j hi hj (Ne.symm hne)
  -- the two dicts, whichever of them took the name
  have both : ∀ j, j < 3 → j ≠ i → valueAt (if ab = 0 then stored kT (nm i) (.ref u) else kT) (nm j) = valueAt kT (nm j) ∧ valueAt (if ab = 0 then kI else stored kI (nm i) (.ref u)) (nm j) = valueAt kI (nm j) := by
    intro j hj hne
    by_cases h : ab = 0
    · rw [if_pos h, if_pos h]; exact ⟨stored_other vT (oth j hj hne), rfl⟩
    · rw [if_neg h, if_neg h]; exact ⟨rfl, stored_other vI (oth j hj hne)⟩
  refine ⟨S2, nd, J.D.mono k, J.H.mono k, J.I.mono k, k _ J.msp, ?_, ?_, hB2, ?_, ?_, ?_, ?_, ?_, ?_, ?_, ?_, ?_⟩
  · by_cases h : ab = 0
    · simp only [if_pos h] at hX ⊢; exact hX
    · simp only [if_neg h]; exact J.hT
  · by_cases h : ab = 0
    · simp only [if_pos h]; exact J.hI
    · simp only [if_neg h] at hX ⊢; exact hX
  · by_cases h : ab = 0
    · rw [if_pos h, stored_len vT]; omega
    · rw [if_neg h]; omega
  · by_cases h : ab = 0
    · rw [if_pos h]; omega
    · rw [if_neg h, stored_len vI]; omega
  · rw [stored_len vB, J.zB]
  · rw [List.length_append, zr]; rfl
  · omega
  · intro j hj
    rcases Nat.lt_or_ge j i with hlt | hge
    · -- an earlier routine
      have b2 := both j (by omega) (by omega)
      rcases J.R j hlt with @⟨ab0, _, _, _, _, _, _, _, _, h1, h2, h3, h4, h5, h6, h7, h8, h9⟩
      refine .mk h1 ?_ ?_ (k _ h4) ?_ (by rw [stored_other vB (oth j (by omega) (by omega))]; exact h6) (k _ h7) h8 (h9.mono k)
      · rw [List.getElem?_append_left (by rw [zr]; exact hlt)]; exact h2
      · by_cases h : ab0 = 0
        · rw [if_pos h] at h3 ⊢; rw [b2.1]; exact h3
        · rw [if_neg h] at h3 ⊢; rw [b2.2]; exact h3
      · by_cases h : ab0 = 0
        · rw [if_pos h] at h5 ⊢; rw [b2.2]; exact h5
        · rw [if_neg h] at h5 ⊢; rw [b2.1]; exact h5
    · obtain rfl : j = i := by omega
      refine .mk hab ?_ ?_ (by rw [← zr]; exact mu) ?_ (stored_same vB) mtp hxs Q
      · rw [List.getElem?_append_right (by rw [zr]; exact Nat.le_refl _), zr]; simp
      · by_cases h : ab = 0
        · simp only [if_pos h]; exact stored_same vT
        · simp only [if_neg h]; exact stored_same vI
      · by_cases h : ab = 0
        · simp only [if_pos h]; exact vI
        · simp only [if_neg h]; exact vT
  · exact fun j hj h3 => (both j h3 (by omega)).1.trans (J.nT j (by omega) h3)
  · exact fun j hj h3 => (both j h3 (by omega)).2.trans (J.nI j (by omega) h3)
  · exact fun j hj h3 => (stored_other vB (oth j h3 (by omega))).trans (J.nB j (by omega) h3)
theorem BJ.wrl (J : BJ w l q rl sl te ie tb g tx ix sp nsp i ol oq oT oI oB kT kI kB rts scs im) {led : Led} {nr n : Nat} (hk : ∀ p ∈ im, p ∈ led) (e : i = n) (n1 : 1 ≤ n) (n3 : n ≤ 3) (mr : (rl, listOf rts.toArray nr) ∈ led) (mT : (te, oT) ∈ led) (mI : (ie, oI) ∈ led) (mB : (tb, oB) ∈ led)
    (lT : (te == sysModules) = false) (lI : (ie == sysModules) = false) (lB : (tb == sysModules) = false) : Wrl w led g tx te ix ie rl sl tb sp oT oI oB kT kI kB rts nr nsp n := by
  subst e
  exact ⟨J.D.mono hk, mr, by rw [J.zr]; omega, J.H.mono hk, J.I.mono hk, mT, J.hT, lT, mI, J.hI, lI, mB, J.hB, lB, hk _ J.msp, J.zB, n1, n3, fun j hj => (J.R j hj).mono hk⟩
end
inductive BI (w : World) (l q rl sl te ie tb g tx ix sp : Addr) (nsp i : Nat) : Led → Prop
  | mk {ol oq oT oI oB : Obj} {kT kI kB : List (Str × Value)} {rts scs : List Value} {nr ns : Nat} {im : Led} (J : BJ w l q rl sl te ie tb g tx ix sp nsp i ol oq oT oI oB kT kI kB rts scs im) :
    BI w l q rl sl te ie tb g tx ix sp nsp i ((l, ol) :: (q, oq) :: (sl, listOf scs.toArray ns) :: (rl, listOf rts.toArray nr) :: (te, oT) :: (ie, oI) :: (tb, oB) :: im)
theorem nd_own {f : List Addr} {nx im own : Led} (n : ND f im) (e : nx.map (·.1) = f ++ im.map (·.1)) (h : TbOff own nx) : ND f (im ++ own) := ⟨n.nd, fun a ha p hp => by
  rcases List.mem_append.mp hp with hp | hp
  · exact n.off a ha p hp
  · have : a ∈ nx.map (·.1) := e ▸ List.mem_append_left _ ha
    obtain ⟨r, hr, rfl⟩ := List.mem_map.mp this
    exact h p hp r hr⟩
theorem own_off {f : List Addr} {nx im im' own : Led} (n : ND f (im' ++ own)) (e : nx.map (·.1) = f ++ im'.map (·.1)) (E : Ext own im im') (h : ∀ p ∈ own, ∀ r ∈ im, p.1 ≠ r.1) : TbOff own nx := fun p hp r hr => by
  have : r.1 ∈ f ++ im'.map (·.1) := e ▸ List.mem_map_of_mem hr
  rcases List.mem_append.mp this with h1 | h1
  · exact n.off _ h1 p (List.mem_append_right _ hp)
  · obtain ⟨r2, h2, e2⟩ := List.mem_map.mp h1
    rw [← e2]
    obtain ⟨pu, rfl, o⟩ := E.ex
    rcases List.mem_append.mp h2 with h3 | h3
    · exact o _ (List.mem_map_of_mem h3) p (List.mem_append_right _ hp)
    · exact h p hp r2 h3
section
variable {w : World} {im : Led} {g tx te ix ie rl sl sp : Addr} {nsp : Nat}
theorem wd_top (D : DesignIs w im g rl sl) (H : TopIs w im g tx te) (h : (sp, listOf #[.ref tx, .ref ix] nsp) ∈ im) : Wd w im g rl sl sp tx te 0 := by
  cases D with
  | mk a b => cases H with
    | mk c d e => exact .mk a b c d e (sps := [.ref tx, .ref ix]) h rfl
theorem wd_inn (D : DesignIs w im g rl sl) (H : InnIs w im g tx ix ie) (h : (sp, listOf #[.ref tx, .ref ix] nsp) ∈ im) : Wd w im g rl sl sp ix ie 1 := by
  cases D with
  | mk a b => cases H with
    | mk c d e => exact .mk a b c d e (sps := [.ref tx, .ref ix]) h rfl
end

theorem turn_A {w : World} {mean : ExcName → Option Value} {mg mb : Str → Option Value} {fa : Addr} {cd : Value} {h₀ : Heap} {L : Addr} {m : Str → Option Value} {im own : Led} {s : Shared} {Q : Flow → Shared → Prop} {E : Value → Shared → Prop}
    {l q rl sl te ie tb g tx ix sp : Addr} {nsp i nr ns : Nat} {ol oq oT oI oB : Obj} {kT kI kB : List (Str × Value)} {rts scs : List Value} {tat : Tok}
    (J : BJ w l q rl sl te ie tb g tx ix sp nsp i ol oq oT oI oB kT kI kB rts scs im) (hi : i < 3) (lT : (te == sysModules) = false) (lI : (ie == sysModules) = false)
    (hoff : TbOff own ((l, ol) :: (q, oq) :: (sl, listOf scs.toArray ns) :: (rl, listOf rts.toArray nr) :: (te, oT) :: (ie, oI) :: (tb, oB) :: im))
    (B : Below callerA h₀ [] h₀) (F : Fr h₀ L s.heap m) (X : (K0 w.params).In h₀) (N : News h₀ L s.heap ((l, ol) :: (q, oq) :: (sl, listOf scs.toArray ns) :: (rl, listOf rts.toArray nr) :: (te, oT) :: (ie, oI) :: (tb, oB) :: (im ++ own))) (T : TT mean mg mb h₀)
    (hsrc : m "source" = some (.ref l)) (hdes : m "design" = some (.ref g)) (hsp : m "spots" = some (.ref sp)) (htbl : m "table" = some (.ref tb)) (hat : m "at" = some (.int (i : Int) tat))
    (ret : ∀ h' tk' m' led', Fr h₀ L h' m' → News h₀ L h' led' → (∃ nx', (∀ p ∈ nx', p ∈ led') ∧ (∀ p ∈ own, p ∈ led') ∧ TbOff own nx' ∧ BI w l q rl sl te ie tb g tx ix sp nsp (i + 1) nx') →
      m' "source" = some (.ref l) → m' "design" = some (.ref g) → m' "spots" = some (.ref sp) → m' "table" = some (.ref tb) → Q .next { s with heap := h', toks := tk' }) :
    wpAny (model Challenge.rw_pq0456_01.row.prog w) (callerA.deeper (envOf "law" lawScope L fa cd)) (execs buildBody (envOf "law" lawScope L fa cd)) Q E s := by
  show wpAny (model Challenge.rw_pq0456_01.row.prog w) (callerA.deeper (envOf "law" lawScope L fa cd)) (execs [nthS 0 buildBody, nthS 1 buildBody, nthS 2 buildBody, nthS 3 buildBody, nthS 4 buildBody, nthS 5 buildBody, nthS 6 buildBody] (envOf "law" lawScope L fa cd)) Q E s
  have nd := nd_own J.nd (by rfl) hoff
  have ho2 : ∀ p ∈ own, ∀ r ∈ im, p.1 ≠ r.1 := fun p hp r hr => hoff p hp r (.tail _ (.tail _ (.tail _ (.tail _ (.tail _ (.tail _ (.tail _ hr)))))))
  have k : ∀ p ∈ im, p ∈ im := fun _ h => h
  have zT := J.zT
  have zI := J.zI
  have zB := J.zB
  have zr := J.zr
  have zs := J.zs
  refine tb_0 B F X N T nd (by rfl) J.S hsrc hdes hsp htbl hat fun h1 tk1 m1 ol1 oq1 ab ta F1 N1 S1 hab V1 => ?_
  rcases Nat.le_one_iff_eq_zero_or_eq_one.mp hab with h0 | h0
  · subst h0
    refine turn_B B F1 X N1 T nd S1 (wd_top J.D J.H J.msp) V1 hab hi (by omega) (by omega) J.hT lT (J.nT i (Nat.le_refl _) hi) (by omega) J.hB (by omega) fun h2 tk2 m2 ol2 oq2 oX2 oB2 rt u tp ra tu ti ti2 xs scs2 ns2 im2 F2 N2 nd2 e2 S2 hX2 mu hB2 mt QR zx zs2 V2 => wpAny_execs_nil (ret h2 tk2 m2 _ F2 N2 ⟨_, ?_, fun p hp => .tail _ (.tail _ (.tail _ (.tail _ (.tail _ (.tail _ (.tail _ (List.mem_append_right _ hp))))))), ?_, .mk (nr := nr + 1) (ns := ns2) (J.step (ab := 0) hi hab S2 (nd2.sub kL) e2.sub hX2 mu hB2 mt zx zs2 QR)⟩ V2.src V2.des V2.sps V2.tbl)
    · exact fun p hp => List.mem_append_left own hp
    · exact own_off nd2 rfl e2 ho2
  · subst h0
    refine turn_B B F1 X (News.sub N1 swap56) T nd.sw S1 (wd_inn J.D J.I J.msp) V1 hab hi (by omega) (by omega) J.hI lI (J.nI i (Nat.le_refl _) hi) (by omega) J.hB (by omega) fun h2 tk2 m2 ol2 oq2 oX2 oB2 rt u tp ra tu ti ti2 xs scs2 ns2 im2 F2 N2 nd2 e2 S2 hX2 mu hB2 mt QR zx zs2 V2 => wpAny_execs_nil (ret h2 tk2 m2 _ F2 (News.sub N2 swap56) ⟨_, ?_, fun p hp => .tail _ (.tail _ (.tail _ (.tail _ (.tail _ (.tail _ (.tail _ (List.mem_append_right _ hp))))))), ?_, .mk (nr := nr + 1) (ns := ns2) (J.step (ab := 1) hi hab S2 (nd2.sw.sub kL) e2.sub hX2 mu hB2 mt zx zs2 QR)⟩ V2.src V2.des V2.sps V2.tbl)
    · exact fun p hp => List.mem_append_left own hp
    · exact own_off nd2.sw rfl e2 ho2
theorem take_7 {w : World} {mean : ExcName → Option Value} {mg mb : Str → Option Value} {dp un : Nat} {gd : Option (List Code)} {cn : Str} {cs : Scope} {a : Addr} {ccd : Value} {cl : List (Str × Addr)} {outer : List Env} {A₀ : Around} {base h₀ : Heap} {L : Addr} {m : Str → Option Value} {im : Led} {s : Shared} {l q : Addr} {ol oq : Obj} {most : Int} {mt : Tok} {p1 p2 p3 p4 p5 p6 p7 : Addr × Obj} {Q E : Value → Shared → Prop} (B : Below A₀ base outer h₀) (F : Fr h₀ L s.heap m) (X : (K0 w.params).In h₀) (N : News h₀ L s.heap (p1 :: p2 :: p3 :: p4 :: p5 :: p6 :: p7 :: (l, ol) :: (q, oq) :: im)) (T : TT mean mg mb h₀) (hk : cs.kind = .function) (hd : dp < 400) (hu : un < 2000)
    (S : Src q ol oq) (nd : ND [l, q] im) (hpl : ∀ p ∈ [p1, p2, p3, p4, p5, p6, p7], p.1 ≠ l) (hpq : ∀ p ∈ [p1, p2, p3, p4, p5, p6, p7], p.1 ≠ q) (h0 : 0 < most) (h1 : most ≤ 10)
    (ret : ∀ (r : Nat) t ol' oq' h' tk', Fr h₀ L h' m → News h₀ L h' (p1 :: p2 :: p3 :: p4 :: p5 :: p6 :: p7 :: (l, ol') :: (q, oq') :: im) → Src q ol' oq' → (r : Int) < most → Q (.int (r : Int) t) { s with heap := h', toks := tk' }) :
    wpAny (model Challenge.rw_pq0456_01.row.prog w) (ktrTop dp un gd cn cs L a ccd cl outer) (call (.ref 229) [.ref l, .int most mt]) Q E s := by
  refine take_spec (news := p1 :: p2 :: p3 :: p4 :: p5 :: p6 :: p7 :: im) B F X (news_rot 0 7 2 N) T hk hd hu S (fun h => nd.at (r := (q, oq) :: im) rfl (q, oq) (.head _) h.symm) (fun p hp => ?_) (fun p hp => ?_) h0 h1 fun r t ol' oq' h' tk' F' N' S' a b => ?_
  · exact (List.mem_append.mp (show p ∈ [p1, p2, p3, p4, p5, p6, p7] ++ im from hp)).elim (hpl p) fun h => nd.off l (.head _) p h
  · exact (List.mem_append.mp (show p ∈ [p1, p2, p3, p4, p5, p6, p7] ++ im from hp)).elim (hpq p) fun h => nd.off q (.tail _ (.head _)) p h
  · obtain ⟨k, rfl⟩ := Int.eq_ofNat_of_zero_le a
    exact ret k t ol' oq' h' tk' F' (news_rot 0 2 7 N') S' b
section
variable {prog : Program} {w : World} {A : Around} {E : Value → Shared → Prop} {s : Shared} {h₀ : Heap} {L x dx C : Addr} {m : Str → Option Value} {led : Led} {K : Frag} {name : Str} {v : Value}
theorem exc_field {es : List DictEntry} {n : Nat} {vs : Array Value} {sl : Array (Option Value)} {expr : Bool} {attr : Option Value} {Q : Value → Shared → Prop} (F : Fr h₀ L s.heap m) (X : K.In h₀) (N : News h₀ L s.heap led) (h1 : (x, (⟨.ref C, some dx, .fields vs, sl⟩ : Obj)) ∈ led) (h2 : (dx, dictOf es n) ∈ led) (hp : excMro K C)
    (hga : findIn K (.ref C) "__getattribute__" = some (some (.builtin "BaseException.__getattribute__"))) (hgb : findIn K (.ref C) "__getattr__" = some none)
    (hh : hasDictIn K C = true) (ha : findIn K (.ref C) name = some attr) (hn : noGet K attr = true) (hl : getL name es = some (some v)) (hv : handedIn v = true) (h : Q v { s with toks := s.toks + 1 }) :
    wpAny (model prog w) A (getAttr (.ref x) name expr) Q E s :=
  exc_get (X.keeps F.keep) (exc_inst N h1 h2) hp hga hgb (findObj_own hh ha hn (by rw [lookIn_dict]; exact hl)) hv h
end
noncomputable def forTarget : Stmt → PySem.Expr
  | .For (target := t) .. => t
  | _ => .Constant .none 0 default
noncomputable def cmpLoop : Stmt := nthS 8 askBody
structure Va (m : Str → Option Value) (l sp tb : Addr) : Prop where
  src : m "source" = some (.ref l)
  sps : m "spots" = some (.ref sp)
  tbl : m "table" = some (.ref tb)
structure Vd (m : Str → Option Value) (l sp tb tl : Addr) (st ab : Nat) (n0 : Str) (tst tn ta : Tok) : Prop where
  src : m "source" = some (.ref l)
  sps : m "spots" = some (.ref sp)
  tbl : m "table" = some (.ref tb)
  sta : m "start" = some (.int (st : Int) tst)
  nam : m "name" = some (.str n0 tn)
  rst : m "rest" = some (.ref tl)
  abv : m "above" = some (.int (ab : Int) ta)
theorem lines_a : True := by
  k_with_none
  k_with "G isb" => first | exact isSome_some (by assumption) | exact isSome_none (by assumption) | exact isSome_none rfl | exact isSome_some rfl
  k_with "Ev Name" => (fail_if_success plain_pass); k_dflt (exact ev_name (by walk_at "G val"))
  k_with "Ev Constant" => (fail_if_success plain_pass); k_dflt (first | exact ev_none | exact ev_bool)
  k_with "Ev Attribute" => (fail_if_success plain_pass); k_dflt (exact ev_attr (by walk1) (by k_asm) (by k_mem) (by k_mem) (by k_is) (by k_is) (by k_is) (by k_is) (by walk_at "G get") (by first | assumption | k_handed) (by with_unfolding_all rfl))
  k_with "Ev Subscript" => (fail_if_success plain_pass); k_dflt (first
    | exact ev_item_tup (by walk1) (by k_mem) (by decide) (by decide) (by rfl) (by rfl)
    | exact ev_item_lit (by walk1) (by k_mem) (by decide) (by decide) (by first | rfl | assumption)
    | exact ev_item_dict (by walk1) (by walk1) (by k_mem) (by assumption) (by assumption) (by with_unfolding_all rfl)
    | exact ev_item_list (by walk1) (by walk1) (by k_mem) (by omega) (by omega) (by assumption) (by with_unfolding_all rfl))
  k_with "Tw BoolOp" => (fail_if_success plain_pass); k_dflt (first
    | exact tw_and_nil
    | exact tw_or_nil
    | exact tw_and (by walk1) (by walk1)
    | exact tw_or (by walk1) (by walk1))
  k_with "AndK true" => (fail_if_success plain_pass); k_dflt (exact AndK.yes (by walk1))
  k_with "AndK false" => (fail_if_success plain_pass); exact AndK.no
  k_with "OrK false" => (fail_if_success plain_pass); k_dflt (exact OrK.no (by walk1))
  k_with "OrK true" => (fail_if_success plain_pass); exact OrK.yes
  k_with "G eqs" => first | exact (rfl : (_ : Bool) = true) | exact (rfl : (_ : Bool) = false) | assumption
  k_with "Te Compare" => (fail_if_success plain_pass); k_dflt (first
    | exact te_eq_str (by walk1) (by walk_at "G eqs")
    | exact te_none_yes (by walk1)
    | exact te_none_no (by walk1)
    | exact te_some_yes (by walk1)
    | exact te_some_no (by walk1)
    | exact te_in_yes (by walk1) (by walk1) (by k_mem) (by assumption) (by assumption) (by walk_at "G val") (by with_unfolding_all rfl)
    | exact te_in_no (by walk1) (by walk1) (by k_mem) (by assumption) (by assumption) (by walk_at "G val") (by with_unfolding_all rfl)
    | exact te_notin_yes (by walk1) (by walk1) (by k_mem) (by assumption) (by assumption) (by walk_at "G val") (by with_unfolding_all rfl)
    | exact te_notin_no (by walk1) (by walk1) (by k_mem) (by assumption) (by assumption) (by walk_at "G val") (by with_unfolding_all rfl))
  k_with "Te BoolOp" => (fail_if_success plain_pass); k_dflt (exact te_tw (by walk1))
  k_with "Te Name" => (fail_if_success plain_pass); k_dflt (exact te_bool (by walk1) (by with_unfolding_all rfl))
  k_with "eval Name" => (fail_if_success plain_pass); k_dflt (refine ev_use (by k_asm) (by k_asm) (by walk1) (fun k' => ?_))
  k_with "eval Attribute" => (fail_if_success plain_pass); k_dflt (refine ev_use (by k_asm) (by k_asm) (by walk1) (fun k' => ?_))
  k_with "eval Attribute Name" => (fail_if_success plain_pass); k_dflt (refine ev_use (by k_asm) (by k_asm) (by walk1) (fun k' => ?_))
  k_with "isTrue Compare" => (fail_if_success plain_pass); k_dflt (refine te_use (by k_asm) (by k_asm) (by walk1) (fun k' => ?_))
  k_with "G on" => exact On.step (by with_reducible assumption) (by rfl) (by rfl) (by rfl)
  k_with "execs cons" => (fail_if_success plain_pass); (try dsimp only); (k_dflt (refine anew (by walk_at "G on") (by k_asm) (by k_asm) (fun s9 o9 F9 N9 => ?_))); (try k_sweep); k_dflt (first
    | ((with_reducible show wpAny _ _ (execs (Stmt.Assign [PySem.Expr.Attribute _ _ _] _ _ :: _) _) _ _ _); (refine s_attr o9 F9 N9 (by walk1) (by walk1) (by assumption) (by k_mem) (by k_mem) (by k_is) (by k_is) (by k_is) (by k_is) (by walk_at "G keys") (by exact Nat.le_of_ble_eq_true rfl) (by intro es9 n9; walk_at "G updA") (fun s9 es9 n9 K9 o9 F9 N9 => ?_)); (try k_sweep))
    | ((with_reducible show wpAny _ _ (execs (Stmt.Assign [PySem.Expr.Name _ _] _ _ :: _) _) _ _ _); (refine s_assign F9 N9 (by walk1) (fun h' k' F' N' => ?_)); (try k_sweep))
    | ((with_reducible show wpAny _ _ (execs (Stmt.If _ _ _ _ :: _) _) _ _ _); refine s_if F9 N9 (by walk1) ?_)
    | ((with_reducible show wpAny _ _ (execs (Stmt.Return (some _) _ :: _) _) _ _ _); refine s_return F9 N9 (by walk1) (fun k' => ?_))
    | refine stmt_one ?_
    | refine stmt_cut (fun K hK => ?_))
  k_with "IfK true" => (fail_if_success plain_pass); first | with_reducible refine IfK.one (fun k' => ?_) | with_reducible refine IfK.tt (fun K hK k' => ?_)
  k_with "IfK false" => (fail_if_success plain_pass); first | with_reducible refine IfK.skip (fun k' => ?_) | with_reducible refine IfK.other (fun k' => ?_) | with_reducible refine IfK.ff (fun K hK k' => ?_)
  k_with "G back" => first | with_reducible refine Sq.next (by with_reducible assumption) _ ?_ | with_reducible refine Sq.ret (by with_reducible assumption) _ _ ?_ | with_reducible refine Br.t (by with_reducible assumption) _ ?_ | with_reducible refine Br.f (by with_reducible assumption) _ ?_
  k_with "call builtin:list.append" => (k_here; (with_reducible show wpAny _ _ (call (Value.builtin _) [Value.ref _, _]) _ _ _); k_dflt (refine list_push (by k_asm) (by k_asm) (by walk_at "G upd") (by first | omega | (simp only [List.length_append, List.length_cons, List.length_nil]; omega)) ?_); intro h' F' N'; (try k_sweep))
  k_with "setItem ref str" => (k_here; k_dflt (refine ent_set (by k_asm) (by k_asm) (by walk_at "G updF") (by assumption) (by first | omega | exact Nat.le_of_ble_eq_true rfl) ?_); intro h' o' F' N' hd'; (try dsimp only at N'))
  k_with "G keys" => first | with_reducible assumption | exact KV.nil
  k_with "G get" => first | k_get | exact KV.get (by with_reducible assumption) (by rfl)
  k_with "G val" => first | exact rfl | assumption | walk_at "G var"
  k_with "G upd" => first | (apply Sl.upd nd; walk_at "G sl") | (apply Upd.tail; (focus walk_at "G ne"); walk_at "G upd")
  k_with "G sl" => first | ((with_reducible apply Sl.h); rfl) | ((with_reducible apply Sl.t); walk_at "G sl")
  k_with "G updF" => first | (apply SlF.upd nd; walk_at "G slF") | (apply UpdF.tail; (focus walk_at "G ne"); walk_at "G updF")
  k_with "G slF" => first | ((with_reducible apply SlF.h); rfl) | ((with_reducible apply SlF.t); walk_at "G slF")
  k_with "G ne" => first | exact Nat.ne_of_gt (ltm (by with_reducible assumption) (by k_mem)) | exact Nat.ne_of_gt (ltm l1 (by k_mem)) | exact Nat.ne_of_gt (Nat.lt_trans (ltm l1 (by k_mem)) l2) | exact Nat.ne_of_gt (Nat.lt_trans (Nat.lt_trans (ltm l1 (by k_mem)) l2) l3) | exact Nat.ne_of_gt (Nat.lt_trans (Nat.lt_trans (Nat.lt_trans (ltm l1 (by k_mem)) l2) l3) l4)
  k_with "newTuple" => (k_here; (with_reducible refine kup_newTuple (by k_asm) (by k_asm) (fun u9 h9 F9 N9 l9 => ?_) (by k_dflt kmk_size)); replace l9 := allLt_of l9; (try k_sweep))
  k_with "eval Dict nil nil" => (k_here; k_dflt (refine newDict_K (by k_asm) (by k_asm) T.nolimit (fun u9 h9 ob9 F9 N9 l9 lo9 hd9 _ _ _ => ?_)); replace l9 := allLt_of l9; (try k_sweep))
  k_with "G sub" => (intro p hp; replace hp := sub p hp; k_ownIn)
  k_with "G items" => first | exact .cons (strKind_is _ _ _ _) .nil | exact .cons (strKind_is _ _ _ _) (.cons (strKind_is _ _ _ _) .nil)
  k_with "setItem ref ref" => (k_here; k_dflt (refine rows_set (by ktr_units) (by k_asm) (by k_asm) (by walk_at "G updF") (by with_reducible assumption) (by walk_at "G sub") (by k_mem) (by walk_at "G items") (by with_reducible assumption) (by omega) (fun h9 ro9 F9 N9 R9 => ?_)); (try dsimp only at N9); (try k_sweep))
  k_with "setAttr ref" => (k_dflt (refine set_kv (by walk_at "G on") (by k_asm) (by k_asm) (by assumption) (by k_mem) (by k_mem) (by k_is) (by k_is) (by k_is) (by k_is) kv_rt (by exact Nat.le_of_ble_eq_true rfl) (by intro es9 n9; walk_at "G upd") (fun s9 es9 n9 K9 o9 F9 N9 => ?_)); (try k_sweep))
  k_with "subscriptTail Name Name ref int" => (k_here; k_dflt (refine list_item (by k_asm) (by k_mem) (by omega) (by omega) (by assumption) ?_))
  k_with "compareOp Eq int int" => (k_here; refine eq_int ?_)
  k_with "eval Attribute Subscript" => (fail_if_success plain_pass); k_dflt (refine ev_use (by k_asm) (by k_asm) (by walk1) (fun k' => ?_))
  k_with "call ref" => (k_here; (try dsimp only); (with_reducible show wpAny _ _ (call (Value.ref 229) _) _ _ _); k_dflt (refine take_nd (by k_asm) (by k_asm) (by k_asm) (by k_asm) (by k_asm) (by rfl) (by ktr_room) (by ktr_units) S nd (by rfl) (by omega) (by omega) (fun r t ol oq h' tk' F' N' S b => ?_)); (try k_sweep))
  k_with "call ref" => (k_here; (try dsimp only); (with_reducible show wpAny _ _ (call (Value.ref 229) _) _ _ _); k_dflt (refine take_7 (by k_asm) (by k_asm) (by k_asm) (by k_asm) (by k_asm) (by rfl) (by ktr_room) (by ktr_units) S nd (by walk_at "G off7") (by walk_at "G off7") (by omega) (by omega) (fun r t ol oq h' tk' F' N' S b => ?_)); (try k_sweep))
  k_with "G off7" => first | exact List.forall_mem_nil _ | exact List.forall_mem_cons.mpr ⟨by walk_at "G ne", by walk_at "G off7"⟩
  k_with "call builtin:len" => (k_here; (with_reducible show wpAny _ _ (call (Value.builtin "len") [Value.ref _]) _ _ _); k_dflt (refine ent_len (by k_asm) (by k_mem) hB lB (by omega) ?_))
  k_with "subscriptTail" => (k_here; (with_reducible show wpAny _ _ (subscriptTail _ _ (Value.str _ _) (Value.int _ _)) _ _ _); k_dflt (refine nm_item (by omega) (fun t9 => ?_)))
  k_with "subscriptTail" => (k_here; (with_reducible show wpAny _ _ (subscriptTail _ _ (Value.ref _) (Value.int _ _)) _ _ _); k_dflt (refine list_pick (by k_asm) (by k_mem) (by (simp only [List.length_cons, List.length_nil]; omega)) (by exact Nat.le_of_ble_eq_true rfl) (fun v9 hv9 => ?_)); (rename News _ _ _ _ => nN9); obtain ⟨tl9, vs9, ps9, ev9, ht9, hps9, hm9, hl9⟩ := pick6 nN9 (by k_mem) (by k_mem) (by k_mem) (by k_mem) (by k_mem) (by k_mem) hv9; clear hv9; subst ev9)
  k_with "subscriptTail Name Name ref str" => (k_here; k_dflt (refine ent_item (by k_asm) (by k_mem) hB (by with_reducible assumption) ?_))
  k_with "getMethod ref" => (k_here; (with_reducible show wpAny _ _ (getMethod (Value.ref _) (Str.ofString "get") _) _ _ _); k_dflt (refine rows_method (by k_asm) (by k_mem) (by with_reducible assumption) ?_))
  k_with "call builtin:dict.get" => (k_here; k_dflt (refine rows_get (by ktr_units) (by k_asm) (by k_mem) (by with_reducible assumption) (by walk_at "G sub") lR (by k_mem) hvs ?_))
  k_with "compareOp LtE int int" => (k_here; first | refine int_le_yes (by with_reducible assumption) ?_ | refine int_le_no (by with_reducible assumption) ?_)
  k_with "G var" => first | exact hI.src | exact V.src | exact V.sps | exact V.tbl | exact hdu | exact htd | exact hst | exact hnm | exact hrs | exact D.src | exact D.sps | exact D.sta | exact D.nam | exact D.rst | exact D.abv | exact D.due | exact hrw | exact htl | exact hfh
  k_with "call type:list" => (k_here; (with_reducible show wpAny _ _ (call (Value.type _) [Value.ref _]) _ _ _); k_dflt (refine tup_list (by k_asm) (by k_asm) (by k_mem) (by omega) ?_); intro D9 c9 h9 F9 N9 l9; replace l9 := allLt_of l9; (try k_sweep))
  k_with "binaryOp Add ref ref" => (k_here; (with_reducible show wpAny _ _ (binaryOp _ (Value.ref _) (Value.ref _)) _ _ _); k_dflt (refine list_cat (by k_asm) (by k_asm) (by k_mem) (by k_mem) (by (simp only [List.length_cons, List.length_nil]; omega)) ?_); intro D9 h9 F9 N9 l9; (try simp only [List.cons_append, List.nil_append] at N9); replace l9 := allLt_of l9; (try k_sweep))
  k_with "newList" => (k_here; (with_reducible refine newList_K (by k_asm) (by k_asm) (fun u9 h9 F9 N9 l9 => ?_)); replace l9 := allLt_of l9; (try k_sweep))
  trivial

theorem q_0 {w : World} {mean : ExcName → Option Value} {mg mb : Str → Option Value} {fa : Addr} {cd : Value} {h₀ : Heap} {L : Addr} {m : Str → Option Value} {im : Led} {s : Shared} {Q : Flow → Shared → Prop} {E : Value → Shared → Prop} {rest : List Stmt} {l q sp tb : Addr} {ol oq : Obj}
    (B : Below callerA h₀ [] h₀) (F : Fr h₀ L s.heap m) (X : (K0 w.params).In h₀) (N : News h₀ L s.heap ((l, ol) :: (q, oq) :: im)) (T : TT mean mg mb h₀) (S : Src q ol oq) (nd : ND [l, q] im) (V : Va m l sp tb)
    (ret : ∀ h' tk' m' ol' oq' (st : Nat) tst, Fr h₀ L h' m' → News h₀ L h' ((l, ol') :: (q, oq') :: im) → Src q ol' oq' → st ≤ 1 → Va m' l sp tb → m' "start" = some (.int (st : Int) tst) → wpAny (model Challenge.rw_pq0456_01.row.prog w) (callerA.deeper (envOf "law" lawScope L fa cd)) (execs (rest) (envOf "law" lawScope L fa cd)) Q E { s with heap := h', toks := tk' }) :
    wpAny (model Challenge.rw_pq0456_01.row.prog w) (callerA.deeper (envOf "law" lawScope L fa cd)) (execs (nthS 0 askBody :: rest) (envOf "law" lawScope L fa cd)) Q E s := by
  revert B F X N T
  k_fill
  intro B F X N T
  have o9 := On.refl s
  dsimp only [askBody, lawTail, lawDef, Challenge.pw_pq0456_01, fnBody, forBody, ifBody, nthS, lastS, tlS, hdS]
  k_steps
  (rename News h₀ L _ _ => N8)
  (rename Fr h₀ L _ _ => F8)
  exact On.out (wpAny _ _ _ _ _) (by walk_at "G on") (ret _ _ _ _ _ r _ F8 N8 S (by omega) ⟨V.src, V.sps, V.tbl⟩ rfl)

theorem q_1 {w : World} {mean : ExcName → Option Value} {mg mb : Str → Option Value} {fa : Addr} {cd : Value} {h₀ : Heap} {L : Addr} {m : Str → Option Value} {im : Led} {s : Shared} {Q : Flow → Shared → Prop} {E : Value → Shared → Prop} {rest : List Stmt} {l q : Addr} {ol oq : Obj} {st : Nat} {tst : Tok}
    {g tx te ix ie rl sl tb sp : Addr} {oT oI oB : Obj} {kT kI kB : List (Str × Value)} {rts : List Value} {nr nsp n : Nat} (Wr : Wrl w im g tx te ix ie rl sl tb sp oT oI oB kT kI kB rts nr nsp n)
    (B : Below callerA h₀ [] h₀) (F : Fr h₀ L s.heap m) (X : (K0 w.params).In h₀) (N : News h₀ L s.heap ((l, ol) :: (q, oq) :: im)) (T : TT mean mg mb h₀) (S : Src q ol oq) (nd : ND [l, q] im) (V : Va m l sp tb) (hst : m "start" = some (.int (st : Int) tst))
    (ret : ∀ h' tk' m' ol' oq' (j : Nat) tn, Fr h₀ L h' m' → News h₀ L h' ((l, ol') :: (q, oq') :: im) → Src q ol' oq' → j < n → Va m' l sp tb → m' "start" = some (.int (st : Int) tst) → m' "name" = some (.str (nm j) tn) → wpAny (model Challenge.rw_pq0456_01.row.prog w) (callerA.deeper (envOf "law" lawScope L fa cd)) (execs (rest) (envOf "law" lawScope L fa cd)) Q E { s with heap := h', toks := tk' }) :
    wpAny (model Challenge.rw_pq0456_01.row.prog w) (callerA.deeper (envOf "law" lawScope L fa cd)) (execs (nthS 1 askBody :: rest) (envOf "law" lawScope L fa cd)) Q E s := by
  have mB := Wr.mB
  have hB := Wr.hB
  have lB := Wr.lB
  have hn := Wr.hn
  have n1 := Wr.n1
  have n3 := Wr.n3
  revert B F X N T
  k_fill
  intro B F X N T
  have o9 := On.refl s
  dsimp only [askBody, lawTail, lawDef, Challenge.pw_pq0456_01, fnBody, forBody, ifBody, nthS, lastS, tlS, hdS]
  k_steps
  (rename News h₀ L _ _ => N8)
  (rename Fr h₀ L _ _ => F8)
  exact On.out (wpAny _ _ _ _ _) (by walk_at "G on") (ret _ _ _ _ _ r _ F8 N8 S (by omega) ⟨V.src, V.sps, V.tbl⟩ hst rfl)

theorem q_2 {w : World} {mean : ExcName → Option Value} {mg mb : Str → Option Value} {fa : Addr} {cd : Value} {h₀ : Heap} {L : Addr} {m : Str → Option Value} {im : Led} {s : Shared} {Q : Flow → Shared → Prop} {E : Value → Shared → Prop} {rest : List Stmt} {l q sp tb : Addr} {ol oq : Obj} {st : Nat} {tst tn : Tok} {n0 : Str}
    (B : Below callerA h₀ [] h₀) (F : Fr h₀ L s.heap m) (X : (K0 w.params).In h₀) (N : News h₀ L s.heap ((l, ol) :: (q, oq) :: im)) (T : TT mean mg mb h₀) (S : Src q ol oq) (nd : ND [l, q] im) (V : Va m l sp tb) (hst : m "start" = some (.int (st : Int) tst)) (hnm : m "name" = some (.str n0 tn))
    (ret : ∀ h' tk' m' ol' oq' tl vs ps, Fr h₀ L h' m' → News h₀ L h' ((l, ol') :: (q, oq') :: (tl, tupO vs) :: im) → Src q ol' oq' → StrsAre vs ps → ps ∈ menu → vs.length ≤ 10 → Va m' l sp tb → m' "start" = some (.int (st : Int) tst) → m' "name" = some (.str n0 tn) → m' "rest" = some (.ref tl) → wpAny (model Challenge.rw_pq0456_01.row.prog w) (callerA.deeper (envOf "law" lawScope L fa cd)) (execs (rest) (envOf "law" lawScope L fa cd)) Q E { s with heap := h', toks := tk' }) :
    wpAny (model Challenge.rw_pq0456_01.row.prog w) (callerA.deeper (envOf "law" lawScope L fa cd)) (execs (nthS 2 askBody :: rest) (envOf "law" lawScope L fa cd)) Q E s := by
  revert B F X N T
  k_fill
  intro B F X N T
  have o9 := On.refl s
  dsimp only [askBody, lawTail, lawDef, Challenge.pw_pq0456_01, fnBody, forBody, ifBody, nthS, lastS, tlS, hdS]
  with_reducible refine wpAny_execs_cons ?_
  k_steps
  (rename News h₀ L _ _ => N8)
  (rename Fr h₀ L _ _ => F8)
  exact On.out (wpAny _ _ _ _ _) (by walk_at "G on") (ret _ _ _ _ _ _ _ _ F8 (News.sub N8 (List.forall_mem_cons.mpr ⟨by k_mem, List.forall_mem_cons.mpr ⟨by k_mem, List.forall_mem_cons.mpr ⟨ht9, by intro p hp; k_ownIn⟩⟩⟩)) S hps9 hm9 hl9 ⟨V.src, V.sps, V.tbl⟩ hst hnm rfl)

theorem q_3 {w : World} {mean : ExcName → Option Value} {mg mb : Str → Option Value} {fa : Addr} {cd : Value} {h₀ : Heap} {L : Addr} {m : Str → Option Value} {im : Led} {s : Shared} {Q : Flow → Shared → Prop} {E : Value → Shared → Prop} {rest : List Stmt} {l sp tb tl tp ra : Addr} {st ab : Nat} {tst tn ta : Tok} {n0 : Str} {oB : Obj} {kB : List (Str × Value)}
    (B : Below callerA h₀ [] h₀) (F : Fr h₀ L s.heap m) (X : (K0 w.params).In h₀) (N : News h₀ L s.heap (im)) (T : TT mean mg mb h₀) (V : Va m l sp tb) (hst : m "start" = some (.int (st : Int) tst)) (hnm : m "name" = some (.str n0 tn)) (hrs : m "rest" = some (.ref tl)) (mB : (tb, oB) ∈ im) (hB : oB.IsDictOf (sk w) kB) (hv : valueAt kB n0 = some (.ref tp)) (mt : (tp, tupO [.int (ab : Int) ta, .ref ra]) ∈ im)
    (ret : ∀ h' tk' m', Fr h₀ L h' m' → News h₀ L h' im → Vd m' l sp tb tl st ab n0 tst tn ta → m' "rows" = some (.ref ra) → wpAny (model Challenge.rw_pq0456_01.row.prog w) (callerA.deeper (envOf "law" lawScope L fa cd)) (execs (rest) (envOf "law" lawScope L fa cd)) Q E { s with heap := h', toks := tk' }) :
    wpAny (model Challenge.rw_pq0456_01.row.prog w) (callerA.deeper (envOf "law" lawScope L fa cd)) (execs (nthS 3 askBody :: rest) (envOf "law" lawScope L fa cd)) Q E s := by
  revert B F X N T
  k_fill
  intro B F X N T
  have o9 := On.refl s
  dsimp only [askBody, lawTail, lawDef, Challenge.pw_pq0456_01, fnBody, forBody, ifBody, nthS, lastS, tlS, hdS]
  k_steps
  (rename News h₀ L _ _ => N8)
  (rename Fr h₀ L _ _ => F8)
  exact On.out (wpAny _ _ _ _ _) (by walk_at "G on") (ret _ _ _ F8 N8 ⟨V.src, V.sps, V.tbl, hst, hnm, hrs, rfl⟩ rfl)

theorem q_4 {w : World} {mean : ExcName → Option Value} {mg mb : Str → Option Value} {fa : Addr} {cd : Value} {h₀ : Heap} {L : Addr} {m : Str → Option Value} {im : Led} {s : Shared} {Q : Flow → Shared → Prop} {E : Value → Shared → Prop} {rest : List Stmt} {l sp tb tl : Addr} {st ab : Nat} {tst tn ta : Tok} {n0 : Str} {ra : Addr} {ro : Obj} {led0 : Led} {xs : Rows} {vs : List Value} {ps : List Str}
    (B : Below callerA h₀ [] h₀) (F : Fr h₀ L s.heap m) (X : (K0 w.params).In h₀) (N : News h₀ L s.heap (im)) (T : TT mean mg mb h₀) (D : Vd m l sp tb tl st ab n0 tst tn ta) (hrw : m "rows" = some (.ref ra)) (mR : (ra, ro) ∈ im) (RO : RowsO w led0 ro xs) (sub : ∀ p ∈ led0, p ∈ im) (lR : (ra == sysModules) = false) (mtl : (tl, tupO vs) ∈ im) (hvs : StrsAre vs ps)
    (ret : ∀ h' tk' m', Fr h₀ L h' m' → News h₀ L h' im → Vd m' l sp tb tl st ab n0 tst tn ta → m' "due" = some (if ab ≤ st then ((atKey xs ps).map (·.2)).getD .none else .none) → wpAny (model Challenge.rw_pq0456_01.row.prog w) (callerA.deeper (envOf "law" lawScope L fa cd)) (execs (rest) (envOf "law" lawScope L fa cd)) Q E { s with heap := h', toks := tk' }) :
    wpAny (model Challenge.rw_pq0456_01.row.prog w) (callerA.deeper (envOf "law" lawScope L fa cd)) (execs (nthS 4 askBody :: rest) (envOf "law" lawScope L fa cd)) Q E s := by
  by_cases hle : ab ≤ st
  · have hle2 : (ab : Int) ≤ (st : Int) := Int.ofNat_le.mpr hle
    rw [if_pos hle] at ret
    revert B F X N T
    k_fill
    intro B F X N T
    have o9 := On.refl s
    dsimp only [askBody, lawTail, lawDef, Challenge.pw_pq0456_01, fnBody, forBody, ifBody, nthS, lastS, tlS, hdS]
    k_steps
    (rename News h₀ L _ _ => N8)
    (rename Fr h₀ L _ _ => F8)
    exact On.out (wpAny _ _ _ _ _) (by walk_at "G on") (ret _ _ _ F8 N8 ⟨D.src, D.sps, D.tbl, D.sta, D.nam, D.rst, D.abv⟩ rfl)
  · have hle2 : ¬ (ab : Int) ≤ (st : Int) := fun h => hle (Int.ofNat_le.mp h)
    rw [if_neg hle] at ret
    revert B F X N T
    k_fill
    intro B F X N T
    have o9 := On.refl s
    dsimp only [askBody, lawTail, lawDef, Challenge.pw_pq0456_01, fnBody, forBody, ifBody, nthS, lastS, tlS, hdS]
    k_steps
    (rename News h₀ L _ _ => N8)
    (rename Fr h₀ L _ _ => F8)
    exact On.out (wpAny _ _ _ _ _) (by walk_at "G on") (ret _ _ _ F8 N8 ⟨D.src, D.sps, D.tbl, D.sta, D.nam, D.rst, D.abv⟩ rfl)

theorem q_7 {w : World} {mean : ExcName → Option Value} {mg mb : Str → Option Value} {fa : Addr} {cd : Value} {h₀ : Heap} {L : Addr} {m : Str → Option Value} {s : Shared} {Q : Flow → Shared → Prop} {E : Value → Shared → Prop} {rest : List Stmt} {l sp tb tl : Addr} {st ab : Nat} {tst tn ta : Tok} {n0 : Str} {x tx ix : Addr} {nsp : Nat} {vs : List Value} {due due2 : Value} {led led0 : Led} {g : Addr} {kvx : List (Str × Value)} {numx : Value} {v0 : Value}
    (B : Below callerA h₀ [] h₀) (F : Fr h₀ L s.heap m) (X : (K0 w.params).In h₀) (N : News h₀ L s.heap (led)) (T : TT mean mg mb h₀) (D : Vd m l sp tb tl st ab n0 tst tn ta) (hdu : m "due" = some due) (htd : m "told" = some v0) (msp : (sp, listOf #[.ref tx, .ref ix] nsp) ∈ led) (hx : [Value.ref tx, .ref ix][((st : Int)).toNat]? = some (.ref x)) (hst1 : st ≤ 1) (mtl : (tl, tupO vs) ∈ led) (hvl : vs.length ≤ 10) (SX : ScopeIs w led x g kvx numx) (H : AskOK w mean mg mb led0 x n0 vs due due2) (hs : ∀ p ∈ led0, p ∈ led)
    (ret : ∀ h' tk' m' fv led', Fr h₀ L h' m' → News h₀ L h' led' → (∀ p ∈ led, p ∈ led') → Same w led' fv due2 → Vd m' l sp tb tl st ab n0 tst tn ta → m' "due" = some due → m' "told" = some v0 → m' "from_here" = some fv → wpAny (model Challenge.rw_pq0456_01.row.prog w) (callerA.deeper (envOf "law" lawScope L fa cd)) (execs (rest) (envOf "law" lawScope L fa cd)) Q E { s with heap := h', toks := tk' }) :
    wpAny (model Challenge.rw_pq0456_01.row.prog w) (callerA.deeper (envOf "law" lawScope L fa cd)) (execs (nthS 7 askBody :: rest) (envOf "law" lawScope L fa cd)) Q E s := by
  cases SX with
  | mk mx1 mx2 mx3 mx4 mx5 =>
  k_with "call ref" => (k_here; (with_reducible show wpAny _ _ (call (Value.ref 110) _) _ _ _); (try dsimp only); k_dflt (refine AskOK.desc H (by k_asm) (by k_asm) (by k_asm) (by k_asm) (by intro p hp; replace hp := hs p hp; k_ownIn) (by k_mem) (by k_asm) (by rfl) (by ktr_room) (by ktr_units) (fun fv h9 tk9 S9 F9 N9 => ?_)); (try k_sweep))
  revert B F X N T
  k_fill
  intro B F X N T
  have o9 := On.refl s
  dsimp only [askBody, lawTail, lawDef, Challenge.pw_pq0456_01, fnBody, forBody, ifBody, nthS, lastS, tlS, hdS]
  k_steps
  (rename News h₀ L _ _ => N8)
  (rename Fr h₀ L _ _ => F8)
  exact On.out (wpAny _ _ _ _ _) (by walk_at "G on") (ret _ _ _ fv _ F8 N8 (by intro p hp; k_ownIn) (by with_reducible assumption) ⟨D.src, D.sps, D.tbl, D.sta, D.nam, D.rst, D.abv⟩ hdu htd rfl)

theorem q_56 {w : World} {mean : ExcName → Option Value} {mg mb : Str → Option Value} {fa : Addr} {cd : Value} {h₀ : Heap} {L : Addr} {m : Str → Option Value} {s : Shared} {Q : Flow → Shared → Prop} {E : Value → Shared → Prop} {rest : List Stmt} {l sp tb tl : Addr} {st ab : Nat} {tst tn ta : Tok} {n0 : Str} {x tx ix : Addr} {nsp : Nat} {vs : List Value} {due due2 : Value} {led led0 : Led} {g : Addr} {kvx : List (Str × Value)} {numx : Value}
    (hE : PassesOwn (model Challenge.rw_pq0456_01.row.prog w) (callerA.deeper (envOf "law" lawScope L fa cd)) (envOf "law" lawScope L fa cd) E) (B : Below callerA h₀ [] h₀) (F : Fr h₀ L s.heap m) (X : (K0 w.params).In h₀) (N : News h₀ L s.heap (led)) (T : TT mean mg mb h₀) (D : Vd m l sp tb tl st ab n0 tst tn ta) (hdu : m "due" = some due) (msp : (sp, listOf #[.ref tx, .ref ix] nsp) ∈ led) (hx : [Value.ref tx, .ref ix][((st : Int)).toNat]? = some (.ref x)) (hst1 : st ≤ 1) (mtl : (tl, tupO vs) ∈ led) (hvl : vs.length ≤ 10) (SX : ScopeIs w led x g kvx numx) (H : AskOK w mean mg mb led0 x n0 vs due due2) (hs : ∀ p ∈ led0, p ∈ led)
    (ret : ∀ h' tk' m' v led', Fr h₀ L h' m' → News h₀ L h' led' → (∀ p ∈ led, p ∈ led') → Same w led' v due → Vd m' l sp tb tl st ab n0 tst tn ta → m' "due" = some due → m' "told" = some v → wpAny (model Challenge.rw_pq0456_01.row.prog w) (callerA.deeper (envOf "law" lawScope L fa cd)) (execs (rest) (envOf "law" lawScope L fa cd)) Q E { s with heap := h', toks := tk' }) :
    wpAny (model Challenge.rw_pq0456_01.row.prog w) (callerA.deeper (envOf "law" lawScope L fa cd)) (execs (nthS 5 askBody :: nthS 6 askBody :: rest) (envOf "law" lawScope L fa cd)) Q E s := by
  cases SX with
  | mk mx1 mx2 mx3 mx4 mx5 =>
  k_with "call ref" => (k_here; (with_reducible show wpAny _ _ (call (Value.ref 117) _) _ _ _); (try dsimp only); k_dflt (refine AskOK.res H (by k_asm) (by k_asm) (by k_asm) (by k_asm) (by intro p hp; replace hp := hs p hp; k_ownIn) (by k_mem) (by k_asm) (by rfl) (by ktr_room) (by ktr_units) (fun v9 h9 tk9 S9 F9 N9 => ?_) (fun h9 tk9 e9 dx9 es9 ne9 t19 t29 gg9 S9 R9 F9 U9 g19 g29 => ?_)))
  k_with "getAttr ref" => (k_here; k_dflt (refine exc_field (C := 52) (by k_asm) (by k_asm) (by k_asm) (by k_mem) (by k_mem) (by exact excMro_mk (by k_is) (by rfl) (by rfl)) (by k_is) (by k_is) (by k_is) (by k_is) (by first | rfl | k_is) (by with_reducible assumption) (by rfl) ?_))
  k_with "bind" => (k_here; (with_reducible show wpAny _ _ (do bindName (envOf _ _ _ _ _) _ Value.none; unbindBehindTheSuite (envOf _ _ _ _ _) _ _) _ _ _); k_dflt (refine name_goes_keeps (by k_asm) (by k_asm) ?_); intro h9 v9 F9 N9; (try k_sweep))
  k_with "noteFrame ref" => (k_here; k_dflt (refine caught_P (C := 52) (by k_asm) (by k_asm) (by k_asm) (by k_asm) (by k_asm) (by k_asm) (by k_is) (by k_is) (by rfl) (fun h9 ob9 tk9 F9 N9 hX9 hV9 => ?_)); obtain ⟨c9, d9, da9, sl9⟩ := ob9; obtain ⟨vs9, hv9⟩ := hV9; obtain ⟨q19, q29⟩ := hX9; dsimp only at q19 q29 hv9; subst q19; subst q29; subst hv9; (try k_sweep))
  revert B F X N T
  k_fill
  intro B F X N T
  have o9 := On.refl s
  dsimp only [askBody, lawTail, lawDef, Challenge.pw_pq0456_01, fnBody, forBody, ifBody, nthS, lastS, tlS, hdS]
  refine s_assign F N ev_none (fun h5 k5 F5 N5 => ?_)
  clear F N
  with_reducible refine wpAny_execs_cons ?_
  refine wpAny_Try_except ?_
  k_steps
  all_goals (
    (rename News h₀ L _ _ => N8)
    (rename Fr h₀ L _ _ => F8)
    exact On.out (wpAny _ _ _ _ _) (by walk_at "G on") (ret _ _ _ _ _ F8 N8 (by intro p hp; k_ownIn) (Same.mono (by with_reducible assumption) (by intro p hp; k_ownIn)) ⟨D.src, D.sps, D.tbl, D.sta, D.nam, D.rst, D.abv⟩ hdu rfl))

theorem q_T {w : World} {mean : ExcName → Option Value} {mg mb : Str → Option Value} {fa : Addr} {cd : Value} {h₀ : Heap} {L : Addr} {m : Str → Option Value} {s : Shared} {Q : Flow → Shared → Prop} {E : Value → Shared → Prop} {led : Led} {s₀ : Shared} {l sp tb p : Addr} {f wv : Value}
    (B : Below callerA h₀ [] h₀) (F : Fr h₀ L s.heap m) (X : (K0 w.params).In h₀) (N : News h₀ L s.heap (led)) (T : TT mean mg mb h₀) (mp : (p, tupO [f, wv]) ∈ led) (S : Same w led f wv) (hI : Va m l sp tb) (hs : ∃ h tk, s = { s₀ with heap := h, toks := tk }) :
    wpAny (model Challenge.rw_pq0456_01.row.prog w) (callerA.deeper (envOf "law" lawScope L fa cd)) (assign (forTarget cmpLoop) (envOf "law" lawScope L fa cd) (.ref p))
      (fun _ s₃ => wpAny (model Challenge.rw_pq0456_01.row.prog w) (callerA.deeper (envOf "law" lawScope L fa cd)) (execs (forBody cmpLoop) (envOf "law" lawScope L fa cd)) (LPost h₀ L led (fun m₁ => Va m₁ l sp tb) Q s₀) E s₃) E s := by
  obtain ⟨hh, tk, rfl⟩ := hs
  k_with "subscriptTail Name Constant ref int" => (k_here; k_dflt (refine item_tupleT (by exact News.isTup (by k_asm) (by k_mem)) (by decide) (by decide) (by exact rfl) (by exact rfl) ?_))
  k_with "compareOp NotEq int int" => (k_here; refine int_ne_no (by rfl) ?_)
  revert B F X N T
  k_fill
  intro B F X N T
  have o9 := On.refl { s₀ with heap := hh, toks := tk }
  dsimp only [forTarget, cmpLoop, askBody, lawTail, lawDef, Challenge.pw_pq0456_01, fnBody, forBody, ifBody, nthS, lastS, tlS, hdS]
  cases S with
  | none =>
    k_steps
    all_goals (
      (rename News h₀ L _ _ => N8)
      (rename Fr h₀ L _ _ => F8)
      refine On.out (LPost h₀ L led (fun m₁ => Va m₁ l sp tb) Q s₀ .next) (by walk_at "G on") ?_
      dsimp only [LPost]
      exact LEnd.intro F8 N8 (fun q hq => hq) (show Va _ l sp tb from ⟨hI.src, hI.sps, hI.tbl⟩))
  | sig a b =>
    k_steps
    all_goals (
      (rename News h₀ L _ _ => N8)
      (rename Fr h₀ L _ _ => F8)
      refine On.out (LPost h₀ L led (fun m₁ => Va m₁ l sp tb) Q s₀ .next) (by walk_at "G on") ?_
      dsimp only [LPost]
      exact LEnd.intro F8 N8 (fun q hq => hq) (show Va _ l sp tb from ⟨hI.src, hI.sps, hI.tbl⟩))
  | blk a b c =>
    cases c with
    | mk c1 c2 c3 c4 c5 =>
    k_steps
    all_goals (
      (rename News h₀ L _ _ => N8)
      (rename Fr h₀ L _ _ => F8)
      refine On.out (LPost h₀ L led (fun m₁ => Va m₁ l sp tb) Q s₀ .next) (by walk_at "G on") ?_
      dsimp only [LPost]
      exact LEnd.intro F8 N8 (fun q hq => hq) (show Va _ l sp tb from ⟨hI.src, hI.sps, hI.tbl⟩))

theorem q_8 {w : World} {mean : ExcName → Option Value} {mg mb : Str → Option Value} {fa : Addr} {cd : Value} {h₀ : Heap} {L : Addr} {m : Str → Option Value} {s : Shared} {Q : Flow → Shared → Prop} {E : Value → Shared → Prop} {rest : List Stmt} {l sp tb tl : Addr} {st ab : Nat} {tst tn ta : Tok} {n0 : Str} {led : Led} {due v0 fv : Value}
    (hE : PassesOwn (model Challenge.rw_pq0456_01.row.prog w) (callerA.deeper (envOf "law" lawScope L fa cd)) (envOf "law" lawScope L fa cd) E) (B : Below callerA h₀ [] h₀) (F : Fr h₀ L s.heap m) (X : (K0 w.params).In h₀) (N : News h₀ L s.heap (led)) (T : TT mean mg mb h₀) (D : Vd m l sp tb tl st ab n0 tst tn ta) (hdu : m "due" = some due) (htd : m "told" = some v0) (hfh : m "from_here" = some fv) (S1 : Same w led v0 due) (S2 : Same w led fv (if ab = st then due else .none))
    (ret : ∀ h' tk' m', Fr h₀ L h' m' → News h₀ L h' led → Va m' l sp tb → wpAny (model Challenge.rw_pq0456_01.row.prog w) (callerA.deeper (envOf "law" lawScope L fa cd)) (execs (rest) (envOf "law" lawScope L fa cd)) Q E { s with heap := h', toks := tk' }) :
    wpAny (model Challenge.rw_pq0456_01.row.prog w) (callerA.deeper (envOf "law" lawScope L fa cd)) (execs (nthS 8 askBody :: rest) (envOf "law" lawScope L fa cd)) Q E s := by
  have key : (((ab : Int) = (st : Int)) ∧ Same w led fv due) ∨ (((ab : Int) ≠ (st : Int)) ∧ Same w led fv .none) := by
    by_cases hc : ab = st
    · rw [if_pos hc] at S2
      exact .inl ⟨congrArg Int.ofNat hc, S2⟩
    · rw [if_neg hc] at S2
      exact .inr ⟨fun e => hc (Int.ofNat.inj e), S2⟩
  clear S2
  k_with "compareOp Eq int int" => (k_here; first | refine int_eq_yes (by with_reducible assumption) ?_ | refine int_eq_no (by with_reducible assumption) ?_)
  k_with "exec For Tuple List cons nil" => (k_here; (rename Fr _ _ _ _ => lF'); (with_unfolding_all refine For_turns lF' ?_ (by intro _; rfl) (by first | assumption | passes_own)))
  revert B F X N T
  k_fill
  intro B F X N T
  have o9 := On.refl s
  have hT := fun (A : Prop) => A
  dsimp only [askBody, lawTail, lawDef, Challenge.pw_pq0456_01, fnBody, forBody, ifBody, nthS, lastS, tlS, hdS] at hE ⊢
  with_reducible refine wpAny_execs_cons ?_
  rcases key with ⟨hc, S2⟩ | ⟨hc, S2⟩
  all_goals k_steps
  all_goals (
    (rename News h₀ L _ _ => N8)
    (rename Fr h₀ L _ _ => F8)
    refine iter_each (fun m₁ => Va m₁ l sp tb) rfl F8 N8 (by k_mem) ⟨D.src, D.sps, D.tbl⟩ (fun v m₁ own h tk hv hI F1 N1 => ?_) (fun m₁ h tk hI F1 N1 => ?_))
  all_goals first
    | (simp only [List.mem_cons, List.mem_nil_iff, or_false] at hv
       rcases hv with rfl | rfl
       · exact q_T B F1 X N1 T (by k_mem) (Same.mono S1 (by intro p hp; k_ownIn)) hI ⟨_, _, rfl⟩
       · exact q_T B F1 X N1 T (by k_mem) (Same.mono S2 (by intro p hp; k_ownIn)) hI ⟨_, _, rfl⟩)
    | (k_steps
       exact On.out (wpAny _ _ _ _ _) (by walk_at "G on") (ret _ _ _ F1 (News.sub N1 (by intro p hp; k_ownIn)) hI))
theorem due_eq {α : Type} {a b : Nat} {x n : α} : (if a = b then x else n) = if a = b then (if a ≤ b then x else n) else n := by
  by_cases h : a = b
  · rw [if_pos h, if_pos h, if_pos (Nat.le_of_eq h)]
  · rw [if_neg h, if_neg h]
theorem ask_A {w : World} {mean : ExcName → Option Value} {mg mb : Str → Option Value} {fa : Addr} {cd : Value} {h₀ : Heap} {L : Addr} {m : Str → Option Value} {im : Led} {s : Shared} {Q : Flow → Shared → Prop} {E : Value → Shared → Prop} {l q : Addr} {ol oq : Obj}
    {g tx te ix ie rl sl tb sp : Addr} {oT oI oB : Obj} {kT kI kB : List (Str × Value)} {rts : List Value} {nr nsp n : Nat} (Wr : Wrl w im g tx te ix ie rl sl tb sp oT oI oB kT kI kB rts nr nsp n)
    (hE : PassesOwn (model Challenge.rw_pq0456_01.row.prog w) (callerA.deeper (envOf "law" lawScope L fa cd)) (envOf "law" lawScope L fa cd) E) (B : Below callerA h₀ [] h₀) (F : Fr h₀ L s.heap m) (X : (K0 w.params).In h₀) (N : News h₀ L s.heap ((l, ol) :: (q, oq) :: im)) (T : TT mean mg mb h₀) (S : Src q ol oq) (nd : ND [l, q] im) (V : Va m l sp tb)
    (ret : ∀ h' tk' m' ol' oq', Fr h₀ L h' m' → Va m' l sp tb → News h₀ L h' ((l, ol') :: (q, oq') :: im) → Src q ol' oq' → Q .next { s with heap := h', toks := tk' }) :
    wpAny (model Challenge.rw_pq0456_01.row.prog w) (callerA.deeper (envOf "law" lawScope L fa cd)) (execs (askBody) (envOf "law" lawScope L fa cd)) Q E s := by
  show wpAny (model Challenge.rw_pq0456_01.row.prog w) (callerA.deeper (envOf "law" lawScope L fa cd)) (execs ([nthS 0 askBody, nthS 1 askBody, nthS 2 askBody, nthS 3 askBody, nthS 4 askBody, nthS 5 askBody, nthS 6 askBody, nthS 7 askBody, nthS 8 askBody]) (envOf "law" lawScope L fa cd)) Q E s
  refine q_0 B F X N T S nd V fun h1 tk1 m1 ol1 oq1 st tst F1 N1 S1 hst V1 h1s => ?_
  refine q_1 Wr B F1 X N1 T S1 nd V1 h1s fun h2 tk2 m2 ol2 oq2 j tn F2 N2 S2 hj V2 h2s h2n => ?_
  rcases Wr.R j hj with @⟨ab, rt, u, tp, ra, tu, ti, ta, xs, hab, hri, hu, mu, ho, hkb, mtp, hxs, hQ⟩
  with_reducible refine q_2 B F2 X N2 T S2 nd V2 h2s h2n fun h3 tk3 m3 ol3 oq3 tl vs ps F3 N3 S3 hps hm hvl V3 h3s h3n h3r => ?_
  have kk : ∀ p ∈ im, p ∈ (l, ol3) :: (q, oq3) :: (tl, tupO vs) :: im := fun p hp => .tail _ (.tail _ (.tail _ hp))
  have mtl : (tl, tupO vs) ∈ (l, ol3) :: (q, oq3) :: (tl, tupO vs) :: im := .tail _ (.tail _ (.head _))
  refine q_3 B F3 X N3 T V3 h3s h3n h3r (kk _ Wr.mB) Wr.hB hkb (kk _ mtp) fun h4 tk4 m4 F4 N4 D4 hrw => ?_
  obtain ⟨ro, mro, hRo, lo⟩ := hQ.rows
  refine q_4 B F4 X N4 T D4 hrw (kk _ mro) hRo kk lo mtl hps fun h5 tk5 m5 F5 N5 D5 hdu => ?_
  have key := Wr.ask (mean := mean) (mg := mg) (mb := mb) (tp := 0) (ta := 0) kk hm hps hst hab hj hri hu mu ho hQ
  obtain ⟨kvx, numx, SX⟩ := Wr.scope kk st
  refine q_56 hE B F5 X N5 T D5 hdu (kk _ Wr.msp) (spot_at hst) hst mtl hvl SX key (fun _ h => h) fun h6 tk6 m6 v6 led6 F6 N6 k6 S6 D6 hdu6 htd6 => ?_
  refine q_7 B F6 X N6 T D6 hdu6 htd6 (k6 _ (kk _ Wr.msp)) (spot_at hst) hst (k6 _ mtl) hvl (SX.mono k6) key k6 fun h7 tk7 m7 fv led7 F7 N7 k7 S7 D7 hdu7 htd7 hfh7 => ?_
  rw [due_eq] at S7
  exact q_8 hE B F7 X N7 T D7 hdu7 htd7 hfh7 (S6.mono k7) S7 fun h8 tk8 m8 F8 N8 V8 => wpAny_execs_nil (ret h8 tk8 m8 ol3 oq3 F8 V8 (News.sub N8 fun p hp => k7 p (k6 p (by
    rcases List.mem_cons.mp hp with rfl | hp
    · exact .head _
    rcases List.mem_cons.mp hp with rfl | hp
    · exact .tail _ (.head _)
    · exact kk p hp))) S3)
theorem lines_l : True := by
  k_with_none
  k_with "G isb" => first | exact isSome_some (by assumption) | exact isSome_none (by assumption) | exact isSome_none rfl | exact isSome_some rfl
  k_with "Ev Name" => (fail_if_success plain_pass); k_dflt (exact ev_name (by walk_at "G val"))
  k_with "Ev Constant" => (fail_if_success plain_pass); k_dflt (first | exact ev_none | exact ev_bool)
  k_with "Ev Attribute" => (fail_if_success plain_pass); k_dflt (exact ev_attr (by walk1) (by k_asm) (by k_mem) (by k_mem) (by k_is) (by k_is) (by k_is) (by k_is) (by walk_at "G get") (by first | assumption | k_handed) (by with_unfolding_all rfl))
  k_with "Ev Subscript" => (fail_if_success plain_pass); k_dflt (first
    | exact ev_item_tup (by walk1) (by k_mem) (by decide) (by decide) (by rfl) (by rfl)
    | exact ev_item_lit (by walk1) (by k_mem) (by decide) (by decide) (by first | rfl | assumption)
    | exact ev_item_dict (by walk1) (by walk1) (by k_mem) (by assumption) (by assumption) (by with_unfolding_all rfl)
    | exact ev_item_list (by walk1) (by walk1) (by k_mem) (by omega) (by omega) (by assumption) (by with_unfolding_all rfl))
  k_with "Tw BoolOp" => (fail_if_success plain_pass); k_dflt (first
    | exact tw_and_nil
    | exact tw_or_nil
    | exact tw_and (by walk1) (by walk1)
    | exact tw_or (by walk1) (by walk1))
  k_with "AndK true" => (fail_if_success plain_pass); k_dflt (exact AndK.yes (by walk1))
  k_with "AndK false" => (fail_if_success plain_pass); exact AndK.no
  k_with "OrK false" => (fail_if_success plain_pass); k_dflt (exact OrK.no (by walk1))
  k_with "OrK true" => (fail_if_success plain_pass); exact OrK.yes
  k_with "G eqs" => first | exact (rfl : (_ : Bool) = true) | exact (rfl : (_ : Bool) = false) | assumption
  k_with "Te Compare" => (fail_if_success plain_pass); k_dflt (first
    | exact te_eq_str (by walk1) (by walk_at "G eqs")
    | exact te_none_yes (by walk1)
    | exact te_none_no (by walk1)
    | exact te_some_yes (by walk1)
    | exact te_some_no (by walk1)
    | exact te_in_yes (by walk1) (by walk1) (by k_mem) (by assumption) (by assumption) (by walk_at "G val") (by with_unfolding_all rfl)
    | exact te_in_no (by walk1) (by walk1) (by k_mem) (by assumption) (by assumption) (by walk_at "G val") (by with_unfolding_all rfl)
    | exact te_notin_yes (by walk1) (by walk1) (by k_mem) (by assumption) (by assumption) (by walk_at "G val") (by with_unfolding_all rfl)
    | exact te_notin_no (by walk1) (by walk1) (by k_mem) (by assumption) (by assumption) (by walk_at "G val") (by with_unfolding_all rfl))
  k_with "Te BoolOp" => (fail_if_success plain_pass); k_dflt (exact te_tw (by walk1))
  k_with "Te Name" => (fail_if_success plain_pass); k_dflt (exact te_bool (by walk1) (by with_unfolding_all rfl))
  k_with "eval Name" => (fail_if_success plain_pass); k_dflt (refine ev_use (by k_asm) (by k_asm) (by walk1) (fun k' => ?_))
  k_with "eval Attribute" => (fail_if_success plain_pass); k_dflt (refine ev_use (by k_asm) (by k_asm) (by walk1) (fun k' => ?_))
  k_with "eval Attribute Name" => (fail_if_success plain_pass); k_dflt (refine ev_use (by k_asm) (by k_asm) (by walk1) (fun k' => ?_))
  k_with "isTrue Compare" => (fail_if_success plain_pass); k_dflt (refine te_use (by k_asm) (by k_asm) (by walk1) (fun k' => ?_))
  k_with "G on" => exact On.step (by with_reducible assumption) (by rfl) (by rfl) (by rfl)
  k_with "execs cons" => (fail_if_success plain_pass); (try dsimp only); (k_dflt (refine anew (by walk_at "G on") (by k_asm) (by k_asm) (fun s9 o9 F9 N9 => ?_))); (try k_sweep); k_dflt (first
    | ((with_reducible show wpAny _ _ (execs (Stmt.Assign [PySem.Expr.Attribute _ _ _] _ _ :: _) _) _ _ _); (refine s_attr o9 F9 N9 (by walk1) (by walk1) (by assumption) (by k_mem) (by k_mem) (by k_is) (by k_is) (by k_is) (by k_is) (by walk_at "G keys") (by exact Nat.le_of_ble_eq_true rfl) (by intro es9 n9; walk_at "G updA") (fun s9 es9 n9 K9 o9 F9 N9 => ?_)); (try k_sweep))
    | ((with_reducible show wpAny _ _ (execs (Stmt.Assign [PySem.Expr.Name _ _] _ _ :: _) _) _ _ _); (refine s_assign F9 N9 (by walk1) (fun h' k' F' N' => ?_)); (try k_sweep))
    | ((with_reducible show wpAny _ _ (execs (Stmt.If _ _ _ _ :: _) _) _ _ _); refine s_if F9 N9 (by walk1) ?_)
    | ((with_reducible show wpAny _ _ (execs (Stmt.Return (some _) _ :: _) _) _ _ _); refine s_return F9 N9 (by walk1) (fun k' => ?_))
    | refine stmt_one ?_
    | refine stmt_cut (fun K hK => ?_))
  k_with "IfK true" => (fail_if_success plain_pass); first | with_reducible refine IfK.one (fun k' => ?_) | with_reducible refine IfK.tt (fun K hK k' => ?_)
  k_with "IfK false" => (fail_if_success plain_pass); first | with_reducible refine IfK.skip (fun k' => ?_) | with_reducible refine IfK.other (fun k' => ?_) | with_reducible refine IfK.ff (fun K hK k' => ?_)
  k_with "G back" => first | with_reducible refine Sq.next (by with_reducible assumption) _ ?_ | with_reducible refine Sq.ret (by with_reducible assumption) _ _ ?_ | with_reducible refine Br.t (by with_reducible assumption) _ ?_ | with_reducible refine Br.f (by with_reducible assumption) _ ?_
  k_with "call builtin:list.append" => (k_here; (with_reducible show wpAny _ _ (call (Value.builtin _) [Value.ref _, _]) _ _ _); k_dflt (refine list_push (by k_asm) (by k_asm) (by walk_at "G upd") (by first | omega | (simp only [List.length_append, List.length_cons, List.length_nil]; omega)) ?_); intro h' F' N'; (try k_sweep))
  k_with "setItem ref str" => (k_here; k_dflt (refine ent_set (by k_asm) (by k_asm) (by walk_at "G updF") (by assumption) (by first | omega | exact Nat.le_of_ble_eq_true rfl) ?_); intro h' o' F' N' hd'; (try dsimp only at N'))
  k_with "G keys" => first | with_reducible assumption | exact KV.nil
  k_with "G get" => first | k_get | exact KV.get (by with_reducible assumption) (by rfl)
  k_with "G val" => first | exact rfl | assumption | walk_at "G var"
  k_with "G upd" => first | (apply Sl.upd nd; walk_at "G sl") | (apply Upd.tail; (focus walk_at "G ne"); walk_at "G upd")
  k_with "G sl" => first | ((with_reducible apply Sl.h); rfl) | ((with_reducible apply Sl.t); walk_at "G sl")
  k_with "G updF" => first | (apply SlF.upd nd; walk_at "G slF") | (apply UpdF.tail; (focus walk_at "G ne"); walk_at "G updF")
  k_with "G slF" => first | ((with_reducible apply SlF.h); rfl) | ((with_reducible apply SlF.t); walk_at "G slF")
  k_with "G ne" => first | exact Nat.ne_of_gt (ltm (by with_reducible assumption) (by k_mem)) | exact Nat.ne_of_gt (ltm l1 (by k_mem)) | exact Nat.ne_of_gt (Nat.lt_trans (ltm l1 (by k_mem)) l2) | exact Nat.ne_of_gt (Nat.lt_trans (Nat.lt_trans (ltm l1 (by k_mem)) l2) l3) | exact Nat.ne_of_gt (Nat.lt_trans (Nat.lt_trans (Nat.lt_trans (ltm l1 (by k_mem)) l2) l3) l4)
  k_with "newTuple" => (k_here; (with_reducible refine kup_newTuple (by k_asm) (by k_asm) (fun u9 h9 F9 N9 l9 => ?_) (by k_dflt kmk_size)); replace l9 := allLt_of l9; (try k_sweep))
  k_with "eval Dict nil nil" => (k_here; k_dflt (refine newDict_K (by k_asm) (by k_asm) T.nolimit (fun u9 h9 ob9 F9 N9 l9 lo9 hd9 _ _ _ => ?_)); replace l9 := allLt_of l9; (try k_sweep))
  k_with "G sub" => (intro p hp; replace hp := sub p hp; k_ownIn)
  k_with "G items" => first | exact .cons (strKind_is _ _ _ _) .nil | exact .cons (strKind_is _ _ _ _) (.cons (strKind_is _ _ _ _) .nil)
  k_with "setItem ref ref" => (k_here; k_dflt (refine rows_set (by ktr_units) (by k_asm) (by k_asm) (by walk_at "G updF") (by with_reducible assumption) (by walk_at "G sub") (by k_mem) (by walk_at "G items") (by with_reducible assumption) (by omega) (fun h9 ro9 F9 N9 R9 => ?_)); (try dsimp only at N9); (try k_sweep))
  k_with "setAttr ref" => (k_dflt (refine set_kv (by walk_at "G on") (by k_asm) (by k_asm) (by assumption) (by k_mem) (by k_mem) (by k_is) (by k_is) (by k_is) (by k_is) kv_rt (by exact Nat.le_of_ble_eq_true rfl) (by intro es9 n9; walk_at "G upd") (fun s9 es9 n9 K9 o9 F9 N9 => ?_)); (try k_sweep))
  k_with "subscriptTail Name Name ref int" => (k_here; k_dflt (refine list_item (by k_asm) (by k_mem) (by omega) (by omega) (by assumption) ?_))
  k_with "compareOp Eq int int" => (k_here; refine eq_int ?_)
  k_with "eval Attribute Subscript" => (fail_if_success plain_pass); k_dflt (refine ev_use (by k_asm) (by k_asm) (by walk1) (fun k' => ?_))
  k_with "call ref" => (k_here; (try dsimp only); (with_reducible show wpAny _ _ (call (Value.ref 229) _) _ _ _); k_dflt (refine take_nd (by k_asm) (by k_asm) (by k_asm) (by k_asm) (by k_asm) (by rfl) (by ktr_room) (by ktr_units) S nd (by rfl) (by omega) (by omega) (fun r t ol oq h' tk' F' N' S b => ?_)); (try k_sweep))
  k_with "call ref" => (k_here; (try dsimp only); (with_reducible show wpAny _ _ (call (Value.ref 229) _) _ _ _); k_dflt (refine take_7 (by k_asm) (by k_asm) (by k_asm) (by k_asm) (by k_asm) (by rfl) (by ktr_room) (by ktr_units) S nd (by walk_at "G off7") (by walk_at "G off7") (by omega) (by omega) (fun r t ol oq h' tk' F' N' S b => ?_)); (try k_sweep))
  k_with "G off7" => first | exact List.forall_mem_nil _ | exact List.forall_mem_cons.mpr ⟨by walk_at "G ne", by walk_at "G off7"⟩
  k_with "call builtin:len" => (k_here; (with_reducible show wpAny _ _ (call (Value.builtin "len") [Value.ref _]) _ _ _); k_dflt (refine ent_len (by k_asm) (by k_mem) hB lB (by omega) ?_))
  k_with "subscriptTail" => (k_here; (with_reducible show wpAny _ _ (subscriptTail _ _ (Value.str _ _) (Value.int _ _)) _ _ _); k_dflt (refine nm_item (by omega) (fun t9 => ?_)))
  k_with "subscriptTail" => (k_here; (with_reducible show wpAny _ _ (subscriptTail _ _ (Value.ref _) (Value.int _ _)) _ _ _); k_dflt (refine list_pick (by k_asm) (by k_mem) (by (simp only [List.length_cons, List.length_nil]; omega)) (by exact Nat.le_of_ble_eq_true rfl) (fun v9 hv9 => ?_)); (rename News _ _ _ _ => nN9); obtain ⟨tl9, vs9, ps9, ev9, ht9, hps9, hm9, hl9⟩ := pick6 nN9 (by k_mem) (by k_mem) (by k_mem) (by k_mem) (by k_mem) (by k_mem) hv9; clear hv9; subst ev9)
  k_with "subscriptTail Name Name ref str" => (k_here; k_dflt (refine ent_item (by k_asm) (by k_mem) hB (by with_reducible assumption) ?_))
  k_with "getMethod ref" => (k_here; (with_reducible show wpAny _ _ (getMethod (Value.ref _) (Str.ofString "get") _) _ _ _); k_dflt (refine rows_method (by k_asm) (by k_mem) (by with_reducible assumption) ?_))
  k_with "call builtin:dict.get" => (k_here; k_dflt (refine rows_get (by ktr_units) (by k_asm) (by k_mem) (by with_reducible assumption) (by walk_at "G sub") lR (by k_mem) hvs ?_))
  k_with "compareOp LtE int int" => (k_here; first | refine int_le_yes (by with_reducible assumption) ?_ | refine int_le_no (by with_reducible assumption) ?_)
  k_with "G var" => first | exact hI.src | exact V.src | exact V.sps | exact V.tbl | exact hdu | exact htd | exact hst | exact hnm | exact hrs | exact D.src | exact D.sps | exact D.sta | exact D.nam | exact D.rst | exact D.abv | exact D.due | exact hrw | exact htl | exact hfh
  k_with "call type:list" => (k_here; (with_reducible show wpAny _ _ (call (Value.type _) [Value.ref _]) _ _ _); k_dflt (refine tup_list (by k_asm) (by k_asm) (by k_mem) (by omega) ?_); intro D9 c9 h9 F9 N9 l9; replace l9 := allLt_of l9; (try k_sweep))
  k_with "binaryOp Add ref ref" => (k_here; (with_reducible show wpAny _ _ (binaryOp _ (Value.ref _) (Value.ref _)) _ _ _); k_dflt (refine list_cat (by k_asm) (by k_asm) (by k_mem) (by k_mem) (by (simp only [List.length_cons, List.length_nil]; omega)) ?_); intro D9 h9 F9 N9 l9; (try simp only [List.cons_append, List.nil_append] at N9); replace l9 := allLt_of l9; (try k_sweep))
  k_with "newList" => (k_here; (with_reducible refine newList_K (by k_asm) (by k_asm) (fun u9 h9 F9 N9 l9 => ?_)); replace l9 := allLt_of l9; (try k_sweep))
  k_with "exec For Name Call cons nil" => (k_here; (rename Fr _ _ _ _ => lF'); (with_unfolding_all refine' For_invVF lF' ?k1 ?k2 ?_ ?hs ?hE; (case k1 => exact rfl); (case k2 => exact rfl); (case hs => (intro _; rfl)); (case hE => assumption); k_whole))
  k_with "pyIter ref" => (refine Stop.go ?_)
  trivial
theorem ask_L {w : World} {mean : ExcName → Option Value} {mg mb : Str → Option Value} {fa : Addr} {cd : Value} {h₀ : Heap} {L : Addr} {m : Str → Option Value} {im : Led} {s : Shared} {Q : Flow → Shared → Prop} {E : Value → Shared → Prop} {l q : Addr} {ol oq : Obj}
    {g tx te ix ie rl sl tb sp : Addr} {oT oI oB : Obj} {kT kI kB : List (Str × Value)} {rts : List Value} {nr nsp n : Nat} (Wr : Wrl w im g tx te ix ie rl sl tb sp oT oI oB kT kI kB rts nr nsp n)
    (hE : PassesOwn (model Challenge.rw_pq0456_01.row.prog w) (callerA.deeper (envOf "law" lawScope L fa cd)) (envOf "law" lawScope L fa cd) E) (B : Below callerA h₀ [] h₀) (F : Fr h₀ L s.heap m) (X : (K0 w.params).In h₀) (N : News h₀ L s.heap ((l, ol) :: (q, oq) :: im)) (T : TT mean mg mb h₀) (S : Src q ol oq) (nd : ND [l, q] im) (V : Va m l sp tb)
    (ret : ∀ h' tk' m' led, Fr h₀ L h' m' → News h₀ L h' led → Q (.ret (.bool true)) { s with heap := h', toks := tk' }) :
    wpAny (model Challenge.rw_pq0456_01.row.prog w) (callerA.deeper (envOf "law" lawScope L fa cd)) (execs ([nthS 1 lawTail, nthS 2 lawTail]) (envOf "law" lawScope L fa cd)) Q E s := by
  revert B F X N T
  k_fill
  intro B F X N T
  have o9 := On.refl s
  dsimp only [lawTail, lawDef, Challenge.pw_pq0456_01, fnBody, nthS, lastS, tlS, hdS] at hE ⊢
  with_reducible refine wpAny_execs_cons ?_
  k_steps
  (rename IsRange _ _ _ _ _ _ _ _ => hr)
  (rename News h₀ L _ _ => N9)
  (rename Fr h₀ L _ _ => F9)
  (rename Src _ _ _ => S9)
  refine .mk ?_
  dsimp only at hr ⊢
  refine tbr_invG (fun i m₁ nx => (∃ ol' oq', nx = (l, ol') :: (q, oq') :: im ∧ Src q ol' oq') ∧ Va m₁ l sp tb) rfl hr (small_one (by decide) (by decide) (by omega) (by omega)) (rangeSize_nat _ _) F9 N9 ⟨⟨_, _, rfl, S9⟩, ⟨V.src, V.sps, V.tbl⟩⟩ ?_ ?_
  · rintro i k t m₁ nx h tk own hk hoff ⟨⟨ol2, oq2, rfl, S2⟩, V1⟩ F₁ N₁
    refine ask_A (Wr.mono (led := im ++ own) fun p hp => List.mem_append_left _ hp) hE B F₁ X N₁ T S2 (nd_own nd (by rfl) hoff) ⟨V1.src, V1.sps, V1.tbl⟩ fun h' tk' m' ol' oq' F' V' N' S' => ?_
    dsimp only [TbPost]
    refine ⟨h', tk', m', _, (l, ol') :: (q, oq') :: im, rfl, F', N', fun p hp => List.mem_append_left own hp, fun p hp => List.mem_append_right ((l, ol') :: (q, oq') :: im) hp, fun p hp r hr => ?_, ⟨_, _, rfl, S'⟩, V'⟩
    rcases List.mem_cons.mp hr with rfl | hr
    · exact hoff p hp (l, ol2) (.head _)
    rcases List.mem_cons.mp hr with rfl | hr
    · exact hoff p hp (q, oq2) (.tail _ (.head _))
    · exact hoff p hp r (.tail _ (.tail _ hr))
  · rintro m₁ nx h tk ⟨⟨ol2, oq2, rfl, S2⟩, V1⟩ F₁ N₁
    k_steps
    (rename News h₀ L _ _ => N8)
    (rename Fr h₀ L _ _ => F8)
    exact On.out (Q _) (by walk_at "G on") (ret _ _ _ _ F8 N8)
theorem rangeKs_at {n i : Nat} {k : Int} (h : (rangeKs 0 n)[i]? = some k) : i < n ∧ k = (i : Int) := by
  unfold rangeKs at h
  rw [List.getElem?_map, Option.map_eq_some_iff] at h
  obtain ⟨j, hj, rfl⟩ := h
  rw [List.getElem?_eq_some_iff] at hj
  obtain ⟨hlt, he⟩ := hj
  rw [List.getElem_range] at he
  subst he
  rw [List.length_range] at hlt
  exact ⟨hlt, by simp⟩
theorem nd_two {l q : Addr} {f : List Addr} {im r : Led} (n : ND (l :: q :: f) im) (e : r.map (·.1) = f ++ im.map (·.1)) : ND [l, q] r :=
  ⟨List.Nodup.sublist (List.Sublist.cons₂ _ (.cons₂ _ (List.nil_sublist _))) n.nd, fun a ha p hp => by
    rcases List.mem_cons.mp ha with rfl | ha
    · exact n.at (r := (q, p.2) :: r) (congrArg (q :: ·) e) p (.tail _ hp)
    · rw [List.mem_singleton.mp ha]
      exact n.tl.at e p hp⟩
theorem lines_b : True := by
  k_with_none
  k_with "G isb" => first | exact isSome_some (by assumption) | exact isSome_none (by assumption) | exact isSome_none rfl | exact isSome_some rfl
  k_with "Ev Name" => (fail_if_success plain_pass); k_dflt (exact ev_name (by walk_at "G val"))
  k_with "Ev Constant" => (fail_if_success plain_pass); k_dflt (first | exact ev_none | exact ev_bool)
  k_with "Ev Attribute" => (fail_if_success plain_pass); k_dflt (exact ev_attr (by walk1) (by k_asm) (by k_mem) (by k_mem) (by k_is) (by k_is) (by k_is) (by k_is) (by walk_at "G get") (by first | assumption | k_handed) (by with_unfolding_all rfl))
  k_with "Ev Subscript" => (fail_if_success plain_pass); k_dflt (first
    | exact ev_item_tup (by walk1) (by k_mem) (by decide) (by decide) (by rfl) (by rfl)
    | exact ev_item_lit (by walk1) (by k_mem) (by decide) (by decide) (by first | rfl | assumption)
    | exact ev_item_dict (by walk1) (by walk1) (by k_mem) (by assumption) (by assumption) (by with_unfolding_all rfl)
    | exact ev_item_list (by walk1) (by walk1) (by k_mem) (by omega) (by omega) (by assumption) (by with_unfolding_all rfl))
  k_with "Tw BoolOp" => (fail_if_success plain_pass); k_dflt (first
    | exact tw_and_nil
    | exact tw_or_nil
    | exact tw_and (by walk1) (by walk1)
    | exact tw_or (by walk1) (by walk1))
  k_with "AndK true" => (fail_if_success plain_pass); k_dflt (exact AndK.yes (by walk1))
  k_with "AndK false" => (fail_if_success plain_pass); exact AndK.no
  k_with "OrK false" => (fail_if_success plain_pass); k_dflt (exact OrK.no (by walk1))
  k_with "OrK true" => (fail_if_success plain_pass); exact OrK.yes
  k_with "G eqs" => first | exact (rfl : (_ : Bool) = true) | exact (rfl : (_ : Bool) = false) | assumption
  k_with "Te Compare" => (fail_if_success plain_pass); k_dflt (first
    | exact te_eq_str (by walk1) (by walk_at "G eqs")
    | exact te_none_yes (by walk1)
    | exact te_none_no (by walk1)
    | exact te_some_yes (by walk1)
    | exact te_some_no (by walk1)
    | exact te_in_yes (by walk1) (by walk1) (by k_mem) (by assumption) (by assumption) (by walk_at "G val") (by with_unfolding_all rfl)
    | exact te_in_no (by walk1) (by walk1) (by k_mem) (by assumption) (by assumption) (by walk_at "G val") (by with_unfolding_all rfl)
    | exact te_notin_yes (by walk1) (by walk1) (by k_mem) (by assumption) (by assumption) (by walk_at "G val") (by with_unfolding_all rfl)
    | exact te_notin_no (by walk1) (by walk1) (by k_mem) (by assumption) (by assumption) (by walk_at "G val") (by with_unfolding_all rfl))
  k_with "Te BoolOp" => (fail_if_success plain_pass); k_dflt (exact te_tw (by walk1))
  k_with "Te Name" => (fail_if_success plain_pass); k_dflt (exact te_bool (by walk1) (by with_unfolding_all rfl))
  k_with "eval Name" => (fail_if_success plain_pass); k_dflt (refine ev_use (by k_asm) (by k_asm) (by walk1) (fun k' => ?_))
  k_with "eval Attribute" => (fail_if_success plain_pass); k_dflt (refine ev_use (by k_asm) (by k_asm) (by walk1) (fun k' => ?_))
  k_with "eval Attribute Name" => (fail_if_success plain_pass); k_dflt (refine ev_use (by k_asm) (by k_asm) (by walk1) (fun k' => ?_))
  k_with "isTrue Compare" => (fail_if_success plain_pass); k_dflt (refine te_use (by k_asm) (by k_asm) (by walk1) (fun k' => ?_))
  k_with "G on" => exact On.step (by with_reducible assumption) (by rfl) (by rfl) (by rfl)
  k_with "execs cons" => (fail_if_success plain_pass); (try dsimp only); (k_dflt (refine anew (by walk_at "G on") (by k_asm) (by k_asm) (fun s9 o9 F9 N9 => ?_))); (try k_sweep); k_dflt (first
    | ((with_reducible show wpAny _ _ (execs (Stmt.Assign [PySem.Expr.Attribute _ _ _] _ _ :: _) _) _ _ _); (refine s_attr o9 F9 N9 (by walk1) (by walk1) (by assumption) (by k_mem) (by k_mem) (by k_is) (by k_is) (by k_is) (by k_is) (by walk_at "G keys") (by exact Nat.le_of_ble_eq_true rfl) (by intro es9 n9; walk_at "G updA") (fun s9 es9 n9 K9 o9 F9 N9 => ?_)); (try k_sweep))
    | ((with_reducible show wpAny _ _ (execs (Stmt.Assign [PySem.Expr.Name _ _] _ _ :: _) _) _ _ _); (refine s_assign F9 N9 (by walk1) (fun h' k' F' N' => ?_)); (try k_sweep))
    | ((with_reducible show wpAny _ _ (execs (Stmt.If _ _ _ _ :: _) _) _ _ _); refine s_if F9 N9 (by walk1) ?_)
    | ((with_reducible show wpAny _ _ (execs (Stmt.Return (some _) _ :: _) _) _ _ _); refine s_return F9 N9 (by walk1) (fun k' => ?_))
    | refine stmt_one ?_
    | refine stmt_cut (fun K hK => ?_))
  k_with "IfK true" => (fail_if_success plain_pass); first | with_reducible refine IfK.one (fun k' => ?_) | with_reducible refine IfK.tt (fun K hK k' => ?_)
  k_with "IfK false" => (fail_if_success plain_pass); first | with_reducible refine IfK.skip (fun k' => ?_) | with_reducible refine IfK.other (fun k' => ?_) | with_reducible refine IfK.ff (fun K hK k' => ?_)
  k_with "G back" => first | with_reducible refine Sq.next (by with_reducible assumption) _ ?_ | with_reducible refine Sq.ret (by with_reducible assumption) _ _ ?_ | with_reducible refine Br.t (by with_reducible assumption) _ ?_ | with_reducible refine Br.f (by with_reducible assumption) _ ?_
  k_with "call builtin:list.append" => (k_here; (with_reducible show wpAny _ _ (call (Value.builtin _) [Value.ref _, _]) _ _ _); k_dflt (refine list_push (by k_asm) (by k_asm) (by walk_at "G upd") (by first | omega | (simp only [List.length_append, List.length_cons, List.length_nil]; omega)) ?_); intro h' F' N'; (try k_sweep))
  k_with "setItem ref str" => (k_here; k_dflt (refine ent_set (by k_asm) (by k_asm) (by walk_at "G updF") (by assumption) (by first | omega | exact Nat.le_of_ble_eq_true rfl) ?_); intro h' o' F' N' hd'; (try dsimp only at N'))
  k_with "G keys" => first | with_reducible assumption | exact KV.nil
  k_with "G get" => first | k_get | exact KV.get (by with_reducible assumption) (by rfl)
  k_with "G val" => first | exact rfl | assumption | walk_at "G var"
  k_with "G upd" => first | (apply Sl.upd nd; walk_at "G sl") | (apply Upd.tail; (focus walk_at "G ne"); walk_at "G upd")
  k_with "G sl" => first | ((with_reducible apply Sl.h); rfl) | ((with_reducible apply Sl.t); walk_at "G sl")
  k_with "G updF" => first | (apply SlF.upd nd; walk_at "G slF") | (apply UpdF.tail; (focus walk_at "G ne"); walk_at "G updF")
  k_with "G slF" => first | ((with_reducible apply SlF.h); rfl) | ((with_reducible apply SlF.t); walk_at "G slF")
  k_with "G ne" => first | exact Nat.ne_of_gt (ltm (by with_reducible assumption) (by k_mem)) | exact Nat.ne_of_gt (ltm l1 (by k_mem)) | exact Nat.ne_of_gt (Nat.lt_trans (ltm l1 (by k_mem)) l2) | exact Nat.ne_of_gt (Nat.lt_trans (Nat.lt_trans (ltm l1 (by k_mem)) l2) l3) | exact Nat.ne_of_gt (Nat.lt_trans (Nat.lt_trans (Nat.lt_trans (ltm l1 (by k_mem)) l2) l3) l4)
  k_with "newTuple" => (k_here; (with_reducible refine kup_newTuple (by k_asm) (by k_asm) (fun u9 h9 F9 N9 l9 => ?_) (by k_dflt kmk_size)); replace l9 := allLt_of l9; (try k_sweep))
  k_with "eval Dict nil nil" => (k_here; k_dflt (refine newDict_K (by k_asm) (by k_asm) T.nolimit (fun u9 h9 ob9 F9 N9 l9 lo9 hd9 _ _ _ => ?_)); replace l9 := allLt_of l9; (try k_sweep))
  k_with "G sub" => (intro p hp; replace hp := sub p hp; k_ownIn)
  k_with "G items" => first | exact .cons (strKind_is _ _ _ _) .nil | exact .cons (strKind_is _ _ _ _) (.cons (strKind_is _ _ _ _) .nil)
  k_with "setItem ref ref" => (k_here; k_dflt (refine rows_set (by ktr_units) (by k_asm) (by k_asm) (by walk_at "G updF") (by with_reducible assumption) (by walk_at "G sub") (by k_mem) (by walk_at "G items") (by with_reducible assumption) (by omega) (fun h9 ro9 F9 N9 R9 => ?_)); (try dsimp only at N9); (try k_sweep))
  k_with "setAttr ref" => (k_dflt (refine set_kv (by walk_at "G on") (by k_asm) (by k_asm) (by assumption) (by k_mem) (by k_mem) (by k_is) (by k_is) (by k_is) (by k_is) kv_rt (by exact Nat.le_of_ble_eq_true rfl) (by intro es9 n9; walk_at "G upd") (fun s9 es9 n9 K9 o9 F9 N9 => ?_)); (try k_sweep))
  k_with "subscriptTail Name Name ref int" => (k_here; k_dflt (refine list_item (by k_asm) (by k_mem) (by omega) (by omega) (by assumption) ?_))
  k_with "compareOp Eq int int" => (k_here; refine eq_int ?_)
  k_with "eval Attribute Subscript" => (fail_if_success plain_pass); k_dflt (refine ev_use (by k_asm) (by k_asm) (by walk1) (fun k' => ?_))
  k_with "call ref" => (k_here; (try dsimp only); (with_reducible show wpAny _ _ (call (Value.ref 229) _) _ _ _); k_dflt (refine take_nd (by k_asm) (by k_asm) (by k_asm) (by k_asm) (by k_asm) (by rfl) (by ktr_room) (by ktr_units) S nd (by rfl) (by omega) (by omega) (fun r t ol oq h' tk' F' N' S b => ?_)); (try k_sweep))
  k_with "call ref" => (k_here; (try dsimp only); (with_reducible show wpAny _ _ (call (Value.ref 229) _) _ _ _); k_dflt (refine take_7 (by k_asm) (by k_asm) (by k_asm) (by k_asm) (by k_asm) (by rfl) (by ktr_room) (by ktr_units) S nd (by walk_at "G off7") (by walk_at "G off7") (by omega) (by omega) (fun r t ol oq h' tk' F' N' S b => ?_)); (try k_sweep))
  k_with "G off7" => first | exact List.forall_mem_nil _ | exact List.forall_mem_cons.mpr ⟨by walk_at "G ne", by walk_at "G off7"⟩
  k_with "call builtin:len" => (k_here; (with_reducible show wpAny _ _ (call (Value.builtin "len") [Value.ref _]) _ _ _); k_dflt (refine ent_len (by k_asm) (by k_mem) hB lB (by omega) ?_))
  k_with "subscriptTail" => (k_here; (with_reducible show wpAny _ _ (subscriptTail _ _ (Value.str _ _) (Value.int _ _)) _ _ _); k_dflt (refine nm_item (by omega) (fun t9 => ?_)))
  k_with "subscriptTail" => (k_here; (with_reducible show wpAny _ _ (subscriptTail _ _ (Value.ref _) (Value.int _ _)) _ _ _); k_dflt (refine list_pick (by k_asm) (by k_mem) (by (simp only [List.length_cons, List.length_nil]; omega)) (by exact Nat.le_of_ble_eq_true rfl) (fun v9 hv9 => ?_)); (rename News _ _ _ _ => nN9); obtain ⟨tl9, vs9, ps9, ev9, ht9, hps9, hm9, hl9⟩ := pick6 nN9 (by k_mem) (by k_mem) (by k_mem) (by k_mem) (by k_mem) (by k_mem) hv9; clear hv9; subst ev9)
  k_with "subscriptTail Name Name ref str" => (k_here; k_dflt (refine ent_item (by k_asm) (by k_mem) hB (by with_reducible assumption) ?_))
  k_with "getMethod ref" => (k_here; (with_reducible show wpAny _ _ (getMethod (Value.ref _) (Str.ofString "get") _) _ _ _); k_dflt (refine rows_method (by k_asm) (by k_mem) (by with_reducible assumption) ?_))
  k_with "call builtin:dict.get" => (k_here; k_dflt (refine rows_get (by ktr_units) (by k_asm) (by k_mem) (by with_reducible assumption) (by walk_at "G sub") lR (by k_mem) hvs ?_))
  k_with "compareOp LtE int int" => (k_here; first | refine int_le_yes (by with_reducible assumption) ?_ | refine int_le_no (by with_reducible assumption) ?_)
  k_with "G var" => first | exact hI.src | exact V.src | exact V.sps | exact V.tbl | exact hdu | exact htd | exact hst | exact hnm | exact hrs | exact D.src | exact D.sps | exact D.sta | exact D.nam | exact D.rst | exact D.abv | exact D.due | exact hrw | exact htl | exact hfh
  k_with "call type:list" => (k_here; (with_reducible show wpAny _ _ (call (Value.type _) [Value.ref _]) _ _ _); k_dflt (refine tup_list (by k_asm) (by k_asm) (by k_mem) (by omega) ?_); intro D9 c9 h9 F9 N9 l9; replace l9 := allLt_of l9; (try k_sweep))
  k_with "binaryOp Add ref ref" => (k_here; (with_reducible show wpAny _ _ (binaryOp _ (Value.ref _) (Value.ref _)) _ _ _); k_dflt (refine list_cat (by k_asm) (by k_asm) (by k_mem) (by k_mem) (by (simp only [List.length_cons, List.length_nil]; omega)) ?_); intro D9 h9 F9 N9 l9; (try simp only [List.cons_append, List.nil_append] at N9); replace l9 := allLt_of l9; (try k_sweep))
  k_with "newList" => (k_here; (with_reducible refine newList_K (by k_asm) (by k_asm) (fun u9 h9 F9 N9 l9 => ?_)); replace l9 := allLt_of l9; (try k_sweep))
  k_with "exec For Name Call cons nil" => (k_here; (rename Fr _ _ _ _ => lF'); (with_unfolding_all refine' For_invVF lF' ?k1 ?k2 ?_ ?hs ?hE; (case k1 => exact rfl); (case k2 => exact rfl); (case hs => (intro _; rfl)); (case hE => assumption); k_whole))
  k_with "pyIter ref" => (refine Stop.go ?_)
  trivial
theorem build_L {w : World} {mean : ExcName → Option Value} {mg mb : Str → Option Value} {fa : Addr} {cd : Value} {h₀ : Heap} {L : Addr} {m : Str → Option Value} {im : Led} {s : Shared} {Q : Flow → Shared → Prop} {E : Value → Shared → Prop} {l q rl sl te ie tb g tx ix sp : Addr} {nsp nr ns : Nat} {ol oq oT oI oB : Obj} {kT kI kB : List (Str × Value)} {rts scs : List Value}
    (J : BJ w l q rl sl te ie tb g tx ix sp nsp 0 ol oq oT oI oB kT kI kB rts scs im) (lT : (te == sysModules) = false) (lI : (ie == sysModules) = false) (lB : (tb == sysModules) = false)
    (hE : PassesOwn (model Challenge.rw_pq0456_01.row.prog w) (callerA.deeper (envOf "law" lawScope L fa cd)) (envOf "law" lawScope L fa cd) E) (B : Below callerA h₀ [] h₀) (F : Fr h₀ L s.heap m) (X : (K0 w.params).In h₀) (N : News h₀ L s.heap ((l, ol) :: (q, oq) :: (sl, listOf scs.toArray ns) :: (rl, listOf rts.toArray nr) :: (te, oT) :: (ie, oI) :: (tb, oB) :: im)) (T : TT mean mg mb h₀)
    (hsrc : m "source" = some (.ref l)) (hdes : m "design" = some (.ref g)) (hsp : m "spots" = some (.ref sp)) (htbl : m "table" = some (.ref tb))
    (ret : ∀ h' tk' m' led, Fr h₀ L h' m' → News h₀ L h' led → Q (.ret (.bool true)) { s with heap := h', toks := tk' }) :
    wpAny (model Challenge.rw_pq0456_01.row.prog w) (callerA.deeper (envOf "law" lawScope L fa cd)) (execs (lawTail) (envOf "law" lawScope L fa cd)) Q E s := by
  show wpAny (model Challenge.rw_pq0456_01.row.prog w) (callerA.deeper (envOf "law" lawScope L fa cd)) (execs ([nthS 0 lawTail, nthS 1 lawTail, nthS 2 lawTail]) (envOf "law" lawScope L fa cd)) Q E s
  have S := J.S
  have nd := J.nd
  revert B F X N T
  k_fill
  intro B F X N T
  have o9 := On.refl s
  have hE2 := hE
  generalize hR : [nthS 1 lawTail, nthS 2 lawTail] = rest
  dsimp only [lawTail, lawDef, Challenge.pw_pq0456_01, fnBody, nthS, lastS, tlS, hdS]
  with_reducible refine wpAny_execs_cons ?_
  k_steps
  (rename IsRange _ _ _ _ _ _ _ _ => hr)
  (rename News h₀ L _ _ => N9)
  (rename Fr h₀ L _ _ => F9)
  (rename Src _ _ _ => S9)
  refine .mk ?_
  dsimp only at hr ⊢
  refine tbr_invG (fun i m₁ nx => BI w l q rl sl te ie tb g tx ix sp nsp i nx ∧ m₁ "source" = some (.ref l) ∧ m₁ "design" = some (.ref g) ∧ m₁ "spots" = some (.ref sp) ∧ m₁ "table" = some (.ref tb)) rfl hr (small_one (by decide) (by decide) (by omega) (by omega)) (rangeSize_nat _ _) F9 N9
    ⟨.mk (J.src S9), hsrc, hdes, hsp, htbl⟩ ?_ ?_
  · rintro i k t m₁ nx h tk own hk hoff ⟨J2, e1, e2, e3, e4⟩ F₁ N₁
    obtain ⟨hi, rfl⟩ := rangeKs_at hk
    cases J2 with
    | mk J2 =>
      refine turn_A J2 (by omega) lT lI hoff B F₁ X N₁ T e1 e2 e3 e4 rfl fun h' tk' m' led' F' N' H s1 s2 s3 s4 => ?_
      obtain ⟨nx', a, b, c, d⟩ := H
      dsimp only [TbPost]
      exact ⟨h', tk', m', led', nx', rfl, F', N', a, b, c, d, s1, s2, s3, s4⟩
  · rintro m₁ nx h tk ⟨J2, e1, e2, e3, e4⟩ F₁ N₁
    subst hR
    cases J2 with
    | @mk ol2 oq2 oT2 oI2 oB2 kT2 kI2 kB2 rts2 scs2 nr2 ns2 im2 J2 =>
      exact ask_L (J2.wrl (led := (sl, listOf scs2.toArray ns2) :: (rl, listOf rts2.toArray nr2) :: (te, oT2) :: (ie, oI2) :: (tb, oB2) :: im2) (fun p hp => .tail _ (.tail _ (.tail _ (.tail _ (.tail _ hp))))) rfl (by omega) (by omega) (.tail _ (.head _)) (.tail _ (.tail _ (.head _))) (.tail _ (.tail _ (.tail _ (.head _)))) (.tail _ (.tail _ (.tail _ (.tail _ (.head _))))) lT lI lB)
        hE2 B F₁ X N₁ T J2.S (nd_two J2.nd (by rfl)) ⟨e1, e3, e4⟩ fun h' tk' m' led F' N' => ret h' tk' m' led F' N'
theorem lines_s : True := by
  k_with_none
  k_with "G isb" => first | exact isSome_some (by assumption) | exact isSome_none (by assumption) | exact isSome_none rfl | exact isSome_some rfl
  k_with "Ev Name" => (fail_if_success plain_pass); k_dflt (exact ev_name (by walk_at "G val"))
  k_with "Ev Constant" => (fail_if_success plain_pass); k_dflt (first | exact ev_none | exact ev_bool)
  k_with "Ev Attribute" => (fail_if_success plain_pass); k_dflt (exact ev_attr (by walk1) (by k_asm) (by k_mem) (by k_mem) (by k_is) (by k_is) (by k_is) (by k_is) (by walk_at "G get") (by first | assumption | k_handed) (by with_unfolding_all rfl))
  k_with "Ev Subscript" => (fail_if_success plain_pass); k_dflt (first
    | exact ev_item_tup (by walk1) (by k_mem) (by decide) (by decide) (by rfl) (by rfl)
    | exact ev_item_lit (by walk1) (by k_mem) (by decide) (by decide) (by first | rfl | assumption)
    | exact ev_item_dict (by walk1) (by walk1) (by k_mem) (by assumption) (by assumption) (by with_unfolding_all rfl)
    | exact ev_item_list (by walk1) (by walk1) (by k_mem) (by omega) (by omega) (by assumption) (by with_unfolding_all rfl))
  k_with "Tw BoolOp" => (fail_if_success plain_pass); k_dflt (first
    | exact tw_and_nil
    | exact tw_or_nil
    | exact tw_and (by walk1) (by walk1)
    | exact tw_or (by walk1) (by walk1))
  k_with "AndK true" => (fail_if_success plain_pass); k_dflt (exact AndK.yes (by walk1))
  k_with "AndK false" => (fail_if_success plain_pass); exact AndK.no
  k_with "OrK false" => (fail_if_success plain_pass); k_dflt (exact OrK.no (by walk1))
  k_with "OrK true" => (fail_if_success plain_pass); exact OrK.yes
  k_with "G eqs" => first | exact (rfl : (_ : Bool) = true) | exact (rfl : (_ : Bool) = false) | assumption
  k_with "Te Compare" => (fail_if_success plain_pass); k_dflt (first
    | exact te_eq_str (by walk1) (by walk_at "G eqs")
    | exact te_none_yes (by walk1)
    | exact te_none_no (by walk1)
    | exact te_some_yes (by walk1)
    | exact te_some_no (by walk1)
    | exact te_in_yes (by walk1) (by walk1) (by k_mem) (by assumption) (by assumption) (by walk_at "G val") (by with_unfolding_all rfl)
    | exact te_in_no (by walk1) (by walk1) (by k_mem) (by assumption) (by assumption) (by walk_at "G val") (by with_unfolding_all rfl)
    | exact te_notin_yes (by walk1) (by walk1) (by k_mem) (by assumption) (by assumption) (by walk_at "G val") (by with_unfolding_all rfl)
    | exact te_notin_no (by walk1) (by walk1) (by k_mem) (by assumption) (by assumption) (by walk_at "G val") (by with_unfolding_all rfl))
  k_with "Te BoolOp" => (fail_if_success plain_pass); k_dflt (exact te_tw (by walk1))
  k_with "Te Name" => (fail_if_success plain_pass); k_dflt (exact te_bool (by walk1) (by with_unfolding_all rfl))
  k_with "eval Name" => (fail_if_success plain_pass); k_dflt (refine ev_use (by k_asm) (by k_asm) (by walk1) (fun k' => ?_))
  k_with "eval Attribute" => (fail_if_success plain_pass); k_dflt (refine ev_use (by k_asm) (by k_asm) (by walk1) (fun k' => ?_))
  k_with "eval Attribute Name" => (fail_if_success plain_pass); k_dflt (refine ev_use (by k_asm) (by k_asm) (by walk1) (fun k' => ?_))
  k_with "isTrue Compare" => (fail_if_success plain_pass); k_dflt (refine te_use (by k_asm) (by k_asm) (by walk1) (fun k' => ?_))
  k_with "G on" => exact On.step (by with_reducible assumption) (by rfl) (by rfl) (by rfl)
  k_with "execs cons" => (fail_if_success plain_pass); (k_dflt (refine anew (by walk_at "G on") (by k_asm) (by k_asm) (fun s9 o9 F9 N9 => ?_))); (try k_sweep); k_dflt (first
    | ((with_reducible show wpAny _ _ (execs (Stmt.Assign [PySem.Expr.Attribute _ _ _] _ _ :: _) _) _ _ _); (refine s_attr o9 F9 N9 (by walk1) (by walk1) (by assumption) (by k_mem) (by k_mem) (by k_is) (by k_is) (by k_is) (by k_is) (by walk_at "G keys") (by exact Nat.le_of_ble_eq_true rfl) (by intro es9 n9; walk_at "G updA") (fun s9 es9 n9 K9 o9 F9 N9 => ?_)); (try k_sweep))
    | ((with_reducible show wpAny _ _ (execs (Stmt.Assign [PySem.Expr.Name _ _] _ _ :: _) _) _ _ _); (refine s_assign F9 N9 (by walk1) (fun h' k' F' N' => ?_)); (try k_sweep))
    | ((with_reducible show wpAny _ _ (execs (Stmt.If _ _ _ _ :: _) _) _ _ _); refine s_if F9 N9 (by walk1) ?_)
    | ((with_reducible show wpAny _ _ (execs (Stmt.Return (some _) _ :: _) _) _ _ _); refine s_return F9 N9 (by walk1) (fun k' => ?_))
    | refine stmt_one ?_
    | refine stmt_cut (fun K hK => ?_))
  k_with "IfK true" => (fail_if_success plain_pass); first | with_reducible refine IfK.one (fun k' => ?_) | with_reducible refine IfK.tt (fun K hK k' => ?_)
  k_with "IfK false" => (fail_if_success plain_pass); first | with_reducible refine IfK.skip (fun k' => ?_) | with_reducible refine IfK.other (fun k' => ?_) | with_reducible refine IfK.ff (fun K hK k' => ?_)
  k_with "G back" => first | with_reducible refine Sq.next (by with_reducible assumption) _ ?_ | with_reducible refine Sq.ret (by with_reducible assumption) _ _ ?_ | with_reducible refine Br.t (by with_reducible assumption) _ ?_ | with_reducible refine Br.f (by with_reducible assumption) _ ?_
  k_with "call builtin:list.append" => (k_here; (with_reducible show wpAny _ _ (call (Value.builtin _) [Value.ref _, _]) _ _ _); k_dflt (refine list_push (by k_asm) (by k_asm) (by walk_at "G upd") (by first | omega | (simp only [List.length_append, List.length_cons, List.length_nil]; omega)) ?_); intro h' F' N'; (try k_sweep))
  k_with "call builtin:len" => (k_here; (with_reducible show wpAny _ _ (call (Value.builtin "len") [Value.ref _]) _ _ _); k_dflt (refine list_len (by k_asm) (by k_mem) (by first | omega | (simp only [List.length_append, List.length_cons, List.length_nil]; omega)) ?_))
  k_with "setItem ref str" => (k_here; k_dflt (refine ent_set (by k_asm) (by k_asm) (by walk_at "G updF") (by assumption) (by first | omega | exact Nat.le_of_ble_eq_true rfl) ?_); intro h' o' F' N' hd'; (try dsimp only at N'))
  k_with "G keys" => first | with_reducible assumption | exact KV.nil
  k_with "G get" => first | k_get | exact KV.get (by with_reducible assumption) (by rfl)
  k_with "G val" => first | exact rfl | assumption | walk_at "G var"
  k_with "G upd" => first | (apply Sl.upd nd; walk_at "G sl") | (apply Upd.tail; (focus walk_at "G ne"); walk_at "G upd")
  k_with "G sl" => first | ((with_reducible apply Sl.h); rfl) | ((with_reducible apply Sl.t); walk_at "G sl")
  k_with "G updF" => first | (apply SlF.upd nd; walk_at "G slF") | (apply UpdF.tail; (focus walk_at "G ne"); walk_at "G updF")
  k_with "G slF" => first | ((with_reducible apply SlF.h); rfl) | ((with_reducible apply SlF.t); walk_at "G slF")
  k_with "G ne" => first | exact Nat.ne_of_gt (ltm (by with_reducible assumption) (by k_mem)) | exact Nat.ne_of_gt (ltm l1 (by k_mem)) | exact Nat.ne_of_gt (Nat.lt_trans (ltm l1 (by k_mem)) l2) | exact Nat.ne_of_gt (Nat.lt_trans (Nat.lt_trans (ltm l1 (by k_mem)) l2) l3) | exact Nat.ne_of_gt (Nat.lt_trans (Nat.lt_trans (Nat.lt_trans (ltm l1 (by k_mem)) l2) l3) l4)
  k_with "newTuple" => (k_here; k_dflt (refine kup_newTuple (by k_asm) (by k_asm) (fun u9 h9 F9 N9 l9 => ?_) (by kmk_size)); replace l9 := allLt_of l9; (try k_sweep))
  k_with "eval Dict nil nil" => (k_here; k_dflt (refine newDict_K (by k_asm) (by k_asm) T.nolimit (fun u9 h9 ob9 F9 N9 l9 lo9 hd9 _ _ _ => ?_)); replace l9 := allLt_of l9; (try k_sweep))
  k_with "G sub" => (intro p hp; replace hp := sub p hp; k_ownIn)
  k_with "G items" => first | exact .cons (strKind_is _ _ _ _) .nil | exact .cons (strKind_is _ _ _ _) (.cons (strKind_is _ _ _ _) .nil)
  k_with "setItem ref ref" => (k_here; k_dflt (refine rows_set (by ktr_units) (by k_asm) (by k_asm) (by walk_at "G updF") (by with_reducible assumption) (by walk_at "G sub") (by k_mem) (by walk_at "G items") (by with_reducible assumption) (by omega) (fun h9 ro9 F9 N9 R9 => ?_)); (try dsimp only at N9); (try k_sweep))
  k_with "setAttr ref" => (k_dflt (refine set_kv (by walk_at "G on") (by k_asm) (by k_asm) (by assumption) (by k_mem) (by k_mem) (by k_is) (by k_is) (by k_is) (by k_is) kv_rt (by exact Nat.le_of_ble_eq_true rfl) (by intro es9 n9; walk_at "G upd") (fun s9 es9 n9 K9 o9 F9 N9 => ?_)); (try k_sweep))
  k_with "call ref" => (k_here; (with_reducible show wpAny _ _ (call (Value.ref 75) _) _ _ _); k_dflt (refine sc_child (by k_asm) (by k_asm) (by k_asm) (by k_asm) (by k_asm) (by rfl) (by ktr_room) (by ktr_units) (by k_mem) (by k_mem) (by k_mem) (by intro v9; walk_at "G upd") (by omega) (by decide) (by k_mem) (by k_mem) (by omega) (by k_mem) (by with_reducible assumption) (by with_reducible assumption) (by with_reducible assumption) (by omega) (by intro v9; walk_at "G updF") (fun tt1 x1 d1 e1 o1 oo1 h1 tk1 t1 tsc1 tp1 tw1 num1 tnum1 v1 n1 F1 N1 hd1 lo1 hd2 l1 l2 l3 l4 => ?_)); (try dsimp only at N1); (try k_sweep))
  k_with "subscriptTail Name Name ref int" => (k_here; k_dflt (refine list_item (by k_asm) (by k_mem) (by omega) (by omega) (by assumption) ?_))
  k_with "compareOp Eq int int" => (k_here; refine eq_int ?_)
  k_with "eval Attribute Subscript" => (fail_if_success plain_pass); k_dflt (refine ev_use (by k_asm) (by k_asm) (by walk1) (fun k' => ?_))
  k_with "call ref" => (k_here; (with_reducible show wpAny _ _ (call (Value.ref 218) _) _ _ _); k_dflt (refine ds_mk (by k_asm) (by k_asm) (by k_asm) (by k_asm) (by k_asm) (by rfl) (by ktr_room) (by ktr_units) (fun g1 gd1 rl1 sl1 h1 tk1 t1 v0 v1 v2 v3 v4 v7 v8 v10 v11 n1 F1 N1 l1 l2 l3 l4 => ?_)); (try k_sweep))
  k_with "newList" => (k_here; (with_reducible refine newList_K (by k_asm) (by k_asm) (fun u9 h9 F9 N9 l9 => ?_)); replace l9 := allLt_of l9; (try k_sweep))
  k_with "G var" => first | exact hs | exact hdes | exact htp | exact hin
  k_with "call ref" => (k_here; (with_reducible show wpAny _ _ (call (Value.ref 127) _) _ _ _); k_dflt (refine sc_top (by k_asm) (by k_asm) (by k_asm) (by k_asm) (by k_asm) (by rfl) (by ktr_room) (by ktr_units) (by k_mem) (by k_mem) (by k_mem) (by intro v9; walk_at "G upd") (by omega) (by decide) (fun x1 d1 e1 o1 h1 tk1 t1 tp1 tw1 num1 tnum1 v1 n1 F1 N1 hd1 lo1 l1 l2 l3 => ?_)); (try dsimp only at N1); (try k_sweep))
  trivial

theorem nd_ds {f : List Addr} {im led : Led} {d x r s : Nat} {ox od : Obj} (n : ND f im) (e : led.map (·.1) = f ++ im.map (·.1)) (A : AllLt d led) (h1 : d < x) (h2 : x < r) (h3 : r < s) : ND (f ++ [s, r]) ((x, ox) :: (d, od) :: im) := by
  have n1 := nd_f (new := [(x, ox), (d, od)]) n e A ⟨Nat.le_of_lt h1, Nat.le_refl _, trivial⟩ f.length (y := r) (Nat.le_of_lt (Nat.lt_trans h1 h2)) (two_ne h1 h2)
  have n2 := nd_f (new := [(x, ox), (d, od)]) n e A ⟨Nat.le_of_lt h1, Nat.le_refl _, trivial⟩ f.length (y := s) (Nat.le_of_lt (Nat.lt_trans h1 (Nat.lt_trans h2 h3))) (two_ne h1 (Nat.lt_trans h2 h3))
  rw [List.take_length, List.drop_length] at n1 n2
  obtain ⟨a1, a2, a3⟩ := List.nodup_append.mp n1.nd
  obtain ⟨b1, b2, b3⟩ := List.nodup_append.mp n2.nd
  refine ⟨List.nodup_append.mpr ⟨a1, List.nodup_cons.mpr ⟨fun h => Nat.ne_of_gt h3 (List.mem_singleton.mp h), a2⟩, fun a ha b hb => ?_⟩, fun a ha p hp => ?_⟩
  · rcases List.mem_cons.mp hb with rfl | hb
    · exact b3 a ha _ (.head _)
    · exact a3 a ha b hb
  · rcases List.mem_append.mp ha with ha | ha
    · exact n1.off a (List.mem_append_left _ ha) p hp
    · rcases List.mem_cons.mp ha with rfl | ha
      · exact n2.off _ (List.mem_append_right _ (.head _)) p hp
      · exact n1.off a (List.mem_append_right _ ha) p hp
theorem len_g {p : Str} (h : p.length ≤ 3) : (p ++ Str.ofString "." ++ Str.ofString "g").length ≤ 10 := by
  have h1 : (Str.ofString ".").length = 1 := by decide
  have h2 : (Str.ofString "g").length = 1 := by decide
  rw [PySem.Str.length_append, PySem.Str.length_append, h1, h2]
  omega
inductive Tp (w : World) (led : Led) (g tx te : Addr) : Prop
  | mk {d : Addr} {t : Nat → Tok} {tn tk : Tok} {path : Str} {tp tw : Tok} {num : Value} {n : Nat} (h1 : (tx, instObj 127 d) ∈ led) (h2 : (d, dictOf (scopeEs w.params t (.ref g) (.str (Str.ofString "top") tn) .none (.str (Str.ofString "module") tk) (.str path tp) (.str (Str.ofString "wire") tw) .none (.ref te) num) n) ∈ led) (h3 : path.length ≤ 3) : Tp w led g tx te
theorem Tp.is {w : World} {led led' : Led} {g tx te : Addr} (H : Tp w led g tx te) (k : ∀ p ∈ led, p ∈ led') : TopIs w led' g tx te := by
  cases H with
  | mk h1 h2 h3 => exact .mk (k _ h1) (k _ h2) (Nat.le_trans h3 (by decide))

theorem src_of {q : Addr} {vs : List Value} {ns : List Int} {n m : Nat} {ta tb : Tok} {r : Int} (hi : IntsAre vs (ns.take 40)) (h0 : 0 ≤ r) (h1 : r < 9973) : Src q (listOf #[.ref q, .int 0 ta, .int (1 + r) tb] n) (listOf vs.toArray m) :=
  ⟨0, 1 + r, ta, tb, n, m, vs, ns.take 40, rfl, rfl, hi, by rw [IntsAre.length hi, List.length_take]; omega, by omega, by omega, by omega⟩

theorem st_0 {w : World} {mean : ExcName → Option Value} {mg mb : Str → Option Value} {fa : Addr} {cd : Value} {h₀ : Heap} {L : Addr} {m : Str → Option Value} {s : Shared} {Q : Flow → Shared → Prop} {E : Value → Shared → Prop} {rest : List Stmt} {ls : Addr} {vs0 : List Value} {ns : List Int}
    (B : Below callerA h₀ [] h₀) (F : Fr h₀ L s.heap m) (X : (K0 w.params).In h₀) (N : News h₀ L s.heap ([])) (T : TT mean mg mb h₀) (hL : h₀.IsList ls vs0.toArray) (hI : IntsAre vs0 ns) (hcond' : ¬ ((63 : Nat) : Int) < (ns.length : Int)) (hs : m "script" = some (.ref ls))
    (ret : ∀ h' tk' m' l q ol oq, Fr h₀ L h' m' → News h₀ L h' [(l, ol), (q, oq)] → @LT.lt Nat _ q l → Src q ol oq → m' "source" = some (.ref l) → wpAny (model Challenge.rw_pq0456_01.row.prog w) (callerA.deeper (envOf "law" lawScope L fa cd)) (execs (rest) (envOf "law" lawScope L fa cd)) Q E { s with heap := h', toks := tk' }) :
    wpAny (model Challenge.rw_pq0456_01.row.prog w) (callerA.deeper (envOf "law" lawScope L fa cd)) (execs (nthS 0 (fnBody lawDef) :: rest) (envOf "law" lawScope L fa cd)) Q E s := by
  revert B F X N T
  k_fill
  intro B F X N T
  have o9 := On.refl s
  dsimp only [lawDef, Challenge.pw_pq0456_01, fnBody, nthS, lastS, tlS, hdS]
  k_steps
  (rename News h₀ L _ _ => N8)
  (rename Fr h₀ L _ _ => F8)
  exact On.out (wpAny _ _ _ _ _) (by walk_at "G on") (ret _ _ _ _ _ _ _ F8 (News.sub N8 (List.forall_mem_cons.mpr ⟨.head _, List.forall_mem_singleton.mpr (.tail _ (.tail _ (.head _)))⟩)) (ltm (by with_reducible assumption) (.tail _ (.head _))) (src_of (by with_reducible assumption) (fmod_lo _ (by decide)) (fmod_hi _ (by decide))) rfl)

theorem st_1 {w : World} {mean : ExcName → Option Value} {mg mb : Str → Option Value} {fa : Addr} {cd : Value} {h₀ : Heap} {L : Addr} {m : Str → Option Value} {im : Led} {s : Shared} {Q : Flow → Shared → Prop} {E : Value → Shared → Prop} {rest : List Stmt} {l q : Addr} {ol oq : Obj}
    (B : Below callerA h₀ [] h₀) (F : Fr h₀ L s.heap m) (X : (K0 w.params).In h₀) (N : News h₀ L s.heap ((l, ol) :: (q, oq) :: im)) (T : TT mean mg mb h₀) (nd : ND [l, q] im) (hs : m "source" = some (.ref l))
    (ret : ∀ h' tk' m' (sl rl g : Addr) (p1 p2 : Addr × Obj), Fr h₀ L h' m' → News h₀ L h' ((l, ol) :: (q, oq) :: (sl, listOf ([] : List Value).toArray 0) :: (rl, listOf ([] : List Value).toArray 0) :: p1 :: p2 :: im) → ND [l, q, sl, rl] (p1 :: p2 :: im) → DesignIs w (p1 :: p2 :: im) g rl sl → m' "source" = some (.ref l) → m' "design" = some (.ref g) → wpAny (model Challenge.rw_pq0456_01.row.prog w) (callerA.deeper (envOf "law" lawScope L fa cd)) (execs (rest) (envOf "law" lawScope L fa cd)) Q E { s with heap := h', toks := tk' }) :
    wpAny (model Challenge.rw_pq0456_01.row.prog w) (callerA.deeper (envOf "law" lawScope L fa cd)) (execs (nthS 1 (fnBody lawDef) :: rest) (envOf "law" lawScope L fa cd)) Q E s := by
  revert B F X N T
  k_fill
  intro B F X N T
  have o9 := On.refl s
  dsimp only [lawDef, Challenge.pw_pq0456_01, fnBody, nthS, lastS, tlS, hdS]
  k_steps
  (rename News h₀ L _ _ => N8)
  (rename Fr h₀ L _ _ => F8)
  exact On.out (wpAny _ _ _ _ _) (by walk_at "G on") (ret _ _ _ _ _ _ (g1, _) (gd1, _) F8 (news_rot 0 4 2 N8) (nd_ds nd rfl l1 l2 l3 l4) (.mk (.head _) (.tail _ (.head _))) hs rfl)

theorem st_2 {w : World} {mean : ExcName → Option Value} {mg mb : Str → Option Value} {fa : Addr} {cd : Value} {h₀ : Heap} {L : Addr} {m : Str → Option Value} {im : Led} {s : Shared} {Q : Flow → Shared → Prop} {E : Value → Shared → Prop} {rest : List Stmt} {l q sl rl g : Addr} {ol oq : Obj} {scs : List Value} {ns : Nat}
    (B : Below callerA h₀ [] h₀) (F : Fr h₀ L s.heap m) (X : (K0 w.params).In h₀) (N : News h₀ L s.heap ((l, ol) :: (q, oq) :: (sl, listOf scs.toArray ns) :: (rl, listOf ([] : List Value).toArray 0) :: im)) (T : TT mean mg mb h₀) (nd : ND [l, q, sl, rl] im) (D : DesignIs w im g rl sl) (hz : scs.length ≤ 100) (hs : m "source" = some (.ref l)) (hdes : m "design" = some (.ref g))
    (ret : ∀ h' tk' m' tx te oT v (p1 p2 : Addr × Obj), Fr h₀ L h' m' → News h₀ L h' ((l, ol) :: (q, oq) :: (sl, listOf (scs ++ [v]).toArray (ns + 1)) :: (rl, listOf ([] : List Value).toArray 0) :: (te, oT) :: p1 :: p2 :: im) → ND [l, q, sl, rl, te] (p1 :: p2 :: im) → Tp w (p1 :: p2 :: im) g tx te → oT.IsDictOf (sk w) [] → (te == sysModules) = false → m' "source" = some (.ref l) → m' "design" = some (.ref g) → m' "top" = some (.ref tx) → wpAny (model Challenge.rw_pq0456_01.row.prog w) (callerA.deeper (envOf "law" lawScope L fa cd)) (execs (rest) (envOf "law" lawScope L fa cd)) Q E { s with heap := h', toks := tk' }) :
    wpAny (model Challenge.rw_pq0456_01.row.prog w) (callerA.deeper (envOf "law" lawScope L fa cd)) (execs (nthS 2 (fnBody lawDef) :: rest) (envOf "law" lawScope L fa cd)) Q E s := by
  revert B F X N T
  k_fill
  intro B F X N T
  have o9 := On.refl s
  cases D with
  | mk g1 g2 =>
  dsimp only [lawDef, Challenge.pw_pq0456_01, fnBody, nthS, lastS, tlS, hdS]
  k_steps
  (rename News h₀ L _ _ => N8)
  (rename Fr h₀ L _ _ => F8)
  exact On.out (wpAny _ _ _ _ _) (by walk_at "G on") (ret _ _ _ _ _ _ _ (x1, _) (d1, _) F8 (news_rot 0 3 4 N8) (nd_f (new := [(x1, _), (d1, _)]) nd rfl l1 ⟨Nat.le_of_lt l2, Nat.le_refl _, trivial⟩ 4 (Nat.le_of_lt (Nat.lt_trans l2 l3)) (two_ne l2 l3)) (.mk (.head _) (.tail _ (.head _)) (by decide)) (by with_reducible assumption) (by with_reducible assumption) hs hdes rfl)

theorem st_3 {w : World} {mean : ExcName → Option Value} {mg mb : Str → Option Value} {fa : Addr} {cd : Value} {h₀ : Heap} {L : Addr} {m : Str → Option Value} {im : Led} {s : Shared} {Q : Flow → Shared → Prop} {E : Value → Shared → Prop} {rest : List Stmt} {l q sl rl g tx te : Addr} {ol oq oT : Obj} {scs : List Value} {ns : Nat}
    (B : Below callerA h₀ [] h₀) (F : Fr h₀ L s.heap m) (X : (K0 w.params).In h₀) (N : News h₀ L s.heap ((l, ol) :: (q, oq) :: (sl, listOf scs.toArray ns) :: (rl, listOf ([] : List Value).toArray 0) :: (te, oT) :: im)) (T : TT mean mg mb h₀) (nd : ND [l, q, sl, rl, te] im) (D : DesignIs w im g rl sl) (H : Tp w im g tx te) (hT : oT.IsDictOf (sk w) []) (lT : (te == sysModules) = false) (hz : scs.length ≤ 100) (hs : m "source" = some (.ref l)) (hdes : m "design" = some (.ref g)) (htp : m "top" = some (.ref tx))
    (ret : ∀ h' tk' m' ix ie oI oT' v tt (p1 p2 p3 : Addr × Obj), Fr h₀ L h' m' → News h₀ L h' ((l, ol) :: (q, oq) :: (sl, listOf (scs ++ [v]).toArray (ns + 1)) :: (rl, listOf ([] : List Value).toArray 0) :: (te, oT') :: (ie, oI) :: p1 :: p2 :: p3 :: im) → ND [l, q, sl, rl, te, ie] (p1 :: p2 :: p3 :: im) → InnIs w (p1 :: p2 :: p3 :: im) g tx ix ie → oI.IsDictOf (sk w) [] → (ie == sysModules) = false → oT'.IsDictOf (sk w) (stored [] (Str.ofString "g") (.ref tt)) → m' "source" = some (.ref l) → m' "design" = some (.ref g) → m' "top" = some (.ref tx) → m' "inner" = some (.ref ix) → wpAny (model Challenge.rw_pq0456_01.row.prog w) (callerA.deeper (envOf "law" lawScope L fa cd)) (execs (rest) (envOf "law" lawScope L fa cd)) Q E { s with heap := h', toks := tk' }) :
    wpAny (model Challenge.rw_pq0456_01.row.prog w) (callerA.deeper (envOf "law" lawScope L fa cd)) (execs (nthS 3 (fnBody lawDef) :: rest) (envOf "law" lawScope L fa cd)) Q E s := by
  revert B F X N T
  k_fill
  intro B F X N T
  have o9 := On.refl s
  cases D with
  | mk g1 g2 =>
  cases H with
  | mk s1 s2 s3 =>
  have vE : valueAt ([] : List (Str × Value)) (Str.ofString "g") = none := rfl
  have zE : ([] : List (Str × Value)).length ≤ 100 := Nat.zero_le _
  dsimp only [lawDef, Challenge.pw_pq0456_01, fnBody, nthS, lastS, tlS, hdS]
  k_steps
  (rename News h₀ L _ _ => N8)
  (rename Fr h₀ L _ _ => F8)
  exact On.out (wpAny _ _ _ _ _) (by walk_at "G on") (ret _ _ _ _ e1 _ _ _ tt1 (tt1, _) (x1, _) (d1, _) F8 (news_rot 0 4 5 (news_sw N8)) (nd_f (new := [(tt1, _), (x1, _), (d1, _)]) nd rfl l1 ⟨Nat.le_of_lt (Nat.lt_trans (Nat.lt_trans l2 l3) l4), Nat.le_of_lt l2, Nat.le_refl _, trivial⟩ 5 (Nat.le_of_lt (Nat.lt_trans l2 l3)) (three_ne l2 l3 l4)) (.mk (.tail _ (.head _)) (.tail _ (.tail _ (.head _))) (len_g s3)) (by with_reducible assumption) (by with_reducible assumption) (by with_reducible assumption) hs hdes htp rfl)

theorem st_4 {w : World} {mean : ExcName → Option Value} {mg mb : Str → Option Value} {fa : Addr} {cd : Value} {h₀ : Heap} {L : Addr} {m : Str → Option Value} {im : Led} {s : Shared} {Q : Flow → Shared → Prop} {E : Value → Shared → Prop} {rest : List Stmt} {l q sl rl g tx te ix ie : Addr} {ol oq oT oI : Obj} {scs : List Value} {ns : Nat}
    (B : Below callerA h₀ [] h₀) (F : Fr h₀ L s.heap m) (X : (K0 w.params).In h₀) (N : News h₀ L s.heap ((l, ol) :: (q, oq) :: (sl, listOf scs.toArray ns) :: (rl, listOf ([] : List Value).toArray 0) :: (te, oT) :: (ie, oI) :: im)) (T : TT mean mg mb h₀) (nd : ND [l, q, sl, rl, te, ie] im) (hs : m "source" = some (.ref l)) (hdes : m "design" = some (.ref g)) (htp : m "top" = some (.ref tx)) (hin : m "inner" = some (.ref ix))
    (ret : ∀ h' tk' m' sp, Fr h₀ L h' m' → News h₀ L h' ((l, ol) :: (q, oq) :: (sl, listOf scs.toArray ns) :: (rl, listOf ([] : List Value).toArray 0) :: (te, oT) :: (ie, oI) :: (sp, listOf #[.ref tx, .ref ix] 0) :: im) → ND [l, q, sl, rl, te, ie] ((sp, listOf #[.ref tx, .ref ix] 0) :: im) → m' "source" = some (.ref l) → m' "design" = some (.ref g) → m' "spots" = some (.ref sp) → wpAny (model Challenge.rw_pq0456_01.row.prog w) (callerA.deeper (envOf "law" lawScope L fa cd)) (execs (rest) (envOf "law" lawScope L fa cd)) Q E { s with heap := h', toks := tk' }) :
    wpAny (model Challenge.rw_pq0456_01.row.prog w) (callerA.deeper (envOf "law" lawScope L fa cd)) (execs (nthS 4 (fnBody lawDef) :: rest) (envOf "law" lawScope L fa cd)) Q E s := by
  revert B F X N T
  k_fill
  intro B F X N T
  have o9 := On.refl s
  dsimp only [lawDef, Challenge.pw_pq0456_01, fnBody, nthS, lastS, tlS, hdS]
  k_steps
  (rename News h₀ L _ _ => N8)
  (rename Fr h₀ L _ _ => F8)
  exact On.out (wpAny _ _ _ _ _) (by walk_at "G on") (ret _ _ _ _ F8 (news_rot 0 1 6 N8) (nd_t (new := [(_, _)]) nd rfl (by with_reducible assumption) ⟨Nat.le_refl _, trivial⟩) hs hdes rfl)

theorem st_5 {w : World} {mean : ExcName → Option Value} {mg mb : Str → Option Value} {fa : Addr} {cd : Value} {h₀ : Heap} {L : Addr} {m : Str → Option Value} {im : Led} {s : Shared} {Q : Flow → Shared → Prop} {E : Value → Shared → Prop} {rest : List Stmt} {l q sl rl g te ie sp : Addr} {ol oq oT oI : Obj} {scs : List Value} {ns : Nat}
    (B : Below callerA h₀ [] h₀) (F : Fr h₀ L s.heap m) (X : (K0 w.params).In h₀) (N : News h₀ L s.heap ((l, ol) :: (q, oq) :: (sl, listOf scs.toArray ns) :: (rl, listOf ([] : List Value).toArray 0) :: (te, oT) :: (ie, oI) :: im)) (T : TT mean mg mb h₀) (nd : ND [l, q, sl, rl, te, ie] im) (hs : m "source" = some (.ref l)) (hdes : m "design" = some (.ref g)) (hsp : m "spots" = some (.ref sp))
    (ret : ∀ h' tk' m' tb oB, Fr h₀ L h' m' → News h₀ L h' ((l, ol) :: (q, oq) :: (sl, listOf scs.toArray ns) :: (rl, listOf ([] : List Value).toArray 0) :: (te, oT) :: (ie, oI) :: (tb, oB) :: im) → ND [l, q, sl, rl, te, ie, tb] im → oB.IsDictOf (sk w) [] → (tb == sysModules) = false → m' "source" = some (.ref l) → m' "design" = some (.ref g) → m' "spots" = some (.ref sp) → m' "table" = some (.ref tb) → wpAny (model Challenge.rw_pq0456_01.row.prog w) (callerA.deeper (envOf "law" lawScope L fa cd)) (execs (rest) (envOf "law" lawScope L fa cd)) Q E { s with heap := h', toks := tk' }) :
    wpAny (model Challenge.rw_pq0456_01.row.prog w) (callerA.deeper (envOf "law" lawScope L fa cd)) (execs (nthS 5 (fnBody lawDef) :: rest) (envOf "law" lawScope L fa cd)) Q E s := by
  revert B F X N T
  k_fill
  intro B F X N T
  have o9 := On.refl s
  dsimp only [lawDef, Challenge.pw_pq0456_01, fnBody, nthS, lastS, tlS, hdS]
  k_steps
  (rename News h₀ L _ _ => N8)
  (rename Fr h₀ L _ _ => F8)
  (rename AllLt _ _ => l8)
  exact On.out (wpAny _ _ _ _ _) (by walk_at "G on") (ret _ _ _ _ _ F8 (news_rot 0 1 6 N8) (nd_f (new := []) nd rfl l8 trivial 6 (Nat.le_refl _) (fun _ h => nomatch h)) (by with_reducible assumption) (by with_reducible assumption) hs hdes hsp rfl)
end G456
namespace G456
open PySem PySem.W PyProof.Rows PySem.Calls
theorem names_free {v : Value} : ∀ j, 0 ≤ j → j < 3 → valueAt (stored [] (Str.ofString "g") v) (nm j) = none := by
  intro j _ hj
  match j with
  | 0 => rfl
  | 1 => rfl
  | 2 => rfl
  | _ + 3 => omega
theorem law_body {w : World} {mean : ExcName → Option Value} {mg mb : Str → Option Value} {fa : Addr} {cd : Value} {h₀ : Heap} {L : Addr} {m : Str → Option Value} {s : Shared} {Q : Flow → Shared → Prop} {E : Value → Shared → Prop} {ls : Addr} {vs0 : List Value} {ns : List Int}
    (B : Below callerA h₀ [] h₀) (F : Fr h₀ L s.heap m) (X : (K0 w.params).In h₀) (N : News h₀ L s.heap []) (T : TT mean mg mb h₀) (hL : h₀.IsList ls vs0.toArray) (hI : IntsAre vs0 ns) (hcond' : ¬ ((63 : Nat) : Int) < (ns.length : Int)) (hs : m "script" = some (.ref ls))
    (hE : PassesOwn (model Challenge.rw_pq0456_01.row.prog w) (callerA.deeper (envOf "law" lawScope L fa cd)) (envOf "law" lawScope L fa cd) E)
    (ret : ∀ h' tk' m' led, Fr h₀ L h' m' → News h₀ L h' led → Q (.ret (.bool true)) { s with heap := h', toks := tk' }) :
    wpAny (model Challenge.rw_pq0456_01.row.prog w) (callerA.deeper (envOf "law" lawScope L fa cd)) (execs (fnBody lawDef) (envOf "law" lawScope L fa cd)) Q E s := by
  show wpAny (model Challenge.rw_pq0456_01.row.prog w) (callerA.deeper (envOf "law" lawScope L fa cd)) (execs (nthS 0 (fnBody lawDef) :: nthS 1 (fnBody lawDef) :: nthS 2 (fnBody lawDef) :: nthS 3 (fnBody lawDef) :: nthS 4 (fnBody lawDef) :: nthS 5 (fnBody lawDef) :: lawTail) (envOf "law" lawScope L fa cd)) Q E s
  refine st_0 B F X N T hL hI hcond' hs fun h1 k1 m1 l q ol oq F N lq S hs => ?_
  have nd : ND [l, q] [] := ⟨List.nodup_cons.mpr ⟨fun h => Nat.ne_of_gt lq (List.mem_singleton.mp h), List.nodup_cons.mpr ⟨fun h => (nomatch h), List.nodup_nil⟩⟩, fun _ _ _ h => (nomatch h)⟩
  refine st_1 B F X N T nd hs fun h2 k2 m2 sl rl g p1 p2 F N nd D hs hd => ?_
  refine st_2 B F X N T nd D (Nat.zero_le _) hs hd fun h3 k3 m3 tx te oT v q1 q2 F N nd H dT lT hs hd ht => ?_
  have D := D.mono (fun p hp => List.mem_append_right [q1, q2] hp)
  refine st_3 B F X N T nd D H dT lT (Nat.le_of_ble_eq_true rfl) hs hd ht fun h4 k4 m4 ix ie oI oT2 v2 tt r1 r2 r3 F N nd I dI lI dT hs hd ht hi => ?_
  have D := D.mono (fun p hp => List.mem_append_right [r1, r2, r3] hp)
  have H := H.is (fun p hp => List.mem_append_right [r1, r2, r3] hp)
  refine st_4 B F X N T nd hs hd ht hi fun h5 k5 m5 sp F N nd hs hd hp => ?_
  have D := D.mono (fun p hp => List.mem_cons_of_mem (sp, listOf #[.ref tx, .ref ix] 0) hp)
  have H := H.mono (fun p hp => List.mem_cons_of_mem (sp, listOf #[.ref tx, .ref ix] 0) hp)
  have I := I.mono (fun p hp => List.mem_cons_of_mem (sp, listOf #[.ref tx, .ref ix] 0) hp)
  refine st_5 B F X N T nd hs hd hp fun h6 k6 m6 tb oB F N nd dB lB hs hd hp htb => ?_
  exact build_L ⟨S, nd, D, H, I, .head _, dT, dI, dB, Nat.le_refl _, Nat.zero_le _, rfl, rfl, (show (([] ++ [v]) ++ [v2] : List Value).length ≤ 2 + 2 * 0 from Nat.le_refl 2), fun j hj => absurd hj (Nat.not_lt_zero j), names_free, fun _ _ _ => rfl, fun _ _ _ => rfl⟩ lT lI lB hE B F X N T hs hd hp htb fun h' tk' m' led F N => ret h' tk' m' led F N
theorem walkT : LawWalk := by
  w_strict (k_go0; (all_goals try k_fold))
  (rename Fr _ _ _ _ => F9)
  (rename News _ _ _ _ => N9)
  (rename Top _ _ _ _ _ (Shared.heap _) => T9)
  (rename Heap.IsList _ _ _ => hL9)
  (rename IntsAre _ _ => hI9)
  refine law_body ?b9 F9 ?x9 N9 T9 hL9 hI9 (by assumption) rfl ?e9 ?r9
  case b9 => k_asm
  case x9 => k_asm
  case e9 => passes_own
  case r9 =>
    intro h' tk' m' led F' N'
    clear F9 N9
    k_steps
end G456
namespace G456
open PySem PySem.W PyProof.Rows PySem.Calls
theorem law_holds : Challenge.rw_pq0456_01.Holds := by
  w_on
  o_law
  o_head (kHook K0 [2, 3, 29, 35, 36, 38, 39, 51, 52, 67, 68, 74, 75, 81, 82, 95, 96, 109, 110, 116, 117, 123, 124, 126, 127, 144, 145, 154, 155, 172, 173, 186, 187, 193, 194, 217, 218, 228, 229] (fun _ => by kernel_rfl))
  case hw => w_witness2
  exact walkT
end G456
set_option maxRecDepth 100000 in
set_option maxHeartbeats 8000000 in
theorem PySem.Challenge.cw_pq0456_01_holds : PySem.Challenge.rw_pq0456_01.Holds := by
  exact G456.law_holds
