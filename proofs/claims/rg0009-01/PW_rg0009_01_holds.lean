import PyProof.Rows.All
import Wide.All
import OpenK.AllK
import Wide.FinOn
import Lean
import PySem.Challenge.RW_rg0009_01
set_option Elab.async false
set_option maxRecDepth 1000000
set_option maxHeartbeats 0
set_option linter.unusedVariables false
set_option compiler.extract_closed false
section
open PySem PySem.W PyProof.Rows
namespace Mine
noncomputable abbrev bodyP : List Stmt := PySem.Challenge.pw_rg0009_01.main.body
def nthS : List Stmt → Nat → Stmt
  | [], _ => .Pass ⟨0, 0, 0, 0⟩
  | s :: _, 0 => s
  | _ :: r, n + 1 => nthS r n
def clB : Stmt → List Stmt
  | .ClassDef _ _ _ b _ _ _ _ _ _ _ => b
  | _ => []
def fnP : Stmt → Arguments
  | .FunctionDef _ a _ _ _ _ _ _ _ _ => a
  | _ => ⟨[], [], none, [], [], none, []⟩
def fnB : Stmt → List Stmt
  | .FunctionDef _ _ b _ _ _ _ _ _ _ => b
  | _ => []
def fnS : Stmt → Scope
  | .FunctionDef _ _ _ _ _ _ s _ _ _ => s
  | _ => { kind := .function, names := [], isGenerator := false, isCoroutine := false }
abbrev pick {α : Type} {e x : α} (_ : e = x) : α := x
noncomputable def K : Params → Frag := fun P =>
  (nat_lit 2, ({ cls := PySem.Value.none, data := PySem.Data.dict #[{ hash := PySem.PyData.keyHash P (PySem.Str.ofString "type.__subclasses__.Exception.0"), key := PySem.Value.str (PySem.Str.ofString "type.__subclasses__.Exception.0") 214, val := PySem.Value.int 31 0 }, { hash := PySem.PyData.keyHash P (PySem.Str.ofString "type.__subclasses__.Exception.n"), key := PySem.Value.str (PySem.Str.ofString "type.__subclasses__.Exception.n") 215, val := PySem.Value.int 1 0 }] 2 } : Obj)) ::
  (nat_lit 3, ({ cls := PySem.Value.type "dict", data := PySem.Data.dict #[{ hash := PySem.PyData.keyHash P (PySem.Str.ofString "__name__"), key := PySem.Value.str (PySem.Str.ofString "__name__") 165, val := PySem.Value.str (PySem.Str.ofString "law_rg0009_01") 703 }, { hash := PySem.PyData.keyHash P (PySem.Str.ofString "__doc__"), key := PySem.Value.str (PySem.Str.ofString "__doc__") 166, val := PySem.Value.none }, { hash := PySem.PyData.keyHash P (PySem.Str.ofString "__package__"), key := PySem.Value.str (PySem.Str.ofString "__package__") 167, val := PySem.Value.none }, { hash := PySem.PyData.keyHash P (PySem.Str.ofString "__loader__"), key := PySem.Value.str (PySem.Str.ofString "__loader__") 168, val := PySem.Value.builtin "__main__.__loader__#opaque" }, { hash := PySem.PyData.keyHash P (PySem.Str.ofString "__spec__"), key := PySem.Value.str (PySem.Str.ofString "__spec__") 169, val := PySem.Value.none }, { hash := PySem.PyData.keyHash P (PySem.Str.ofString "__annotations__"), key := PySem.Value.str (PySem.Str.ofString "__annotations__") 170, val := PySem.Value.ref 6 }, { hash := PySem.PyData.keyHash P (PySem.Str.ofString "__builtins__"), key := PySem.Value.str (PySem.Str.ofString "__builtins__") 171, val := PySem.Value.ref 4 }, { hash := PySem.PyData.keyHash P (PySem.Str.ofString "__file__"), key := PySem.Value.str (PySem.Str.ofString "__file__") 173, val := PySem.Value.str (PySem.Str.ofString "/claim/cut.py") 172 }, { hash := PySem.PyData.keyHash P (PySem.Str.ofString "__cached__"), key := PySem.Value.str (PySem.Str.ofString "__cached__") 174, val := PySem.Value.none }, { hash := PySem.PyData.keyHash P (PySem.Str.ofString "AdaError"), key := PySem.Value.str (PySem.Str.ofString "AdaError") 217, val := PySem.Value.ref 31 }, { hash := PySem.PyData.keyHash P (PySem.Str.ofString "CheckFault"), key := PySem.Value.str (PySem.Str.ofString "CheckFault") 243, val := PySem.Value.ref 51 }, { hash := PySem.PyData.keyHash P (PySem.Str.ofString "refuse"), key := PySem.Value.str (PySem.Str.ofString "refuse") 253, val := PySem.Value.ref 60 }, { hash := PySem.PyData.keyHash P (PySem.Str.ofString "Entity"), key := PySem.Value.str (PySem.Str.ofString "Entity") 305, val := PySem.Value.ref 77 }, { hash := PySem.PyData.keyHash P (PySem.Str.ofString "homographs"), key := PySem.Value.str (PySem.Str.ofString "homographs") 313, val := PySem.Value.ref 88 }, { hash := PySem.PyData.keyHash P (PySem.Str.ofString "SEPARATOR"), key := PySem.Value.str (PySem.Str.ofString "SEPARATOR") 317, val := PySem.Value.str (PySem.Str.ofString "#") 316 }, { hash := PySem.PyData.keyHash P (PySem.Str.ofString "unique"), key := PySem.Value.str (PySem.Str.ofString "unique") 325, val := PySem.Value.ref 95 }, { hash := PySem.PyData.keyHash P (PySem.Str.ofString "FRAME_KINDS"), key := PySem.Value.str (PySem.Str.ofString "FRAME_KINDS") 332, val := PySem.Value.ref 96 }, { hash := PySem.PyData.keyHash P (PySem.Str.ofString "Region"), key := PySem.Value.str (PySem.Str.ofString "Region") 377, val := PySem.Value.ref 113 }, { hash := PySem.PyData.keyHash P (PySem.Str.ofString "open_region"), key := PySem.Value.str (PySem.Str.ofString "open_region") 387, val := PySem.Value.ref 124 }, { hash := PySem.PyData.keyHash P (PySem.Str.ofString "frame_region"), key := PySem.Value.str (PySem.Str.ofString "frame_region") 395, val := PySem.Value.ref 131 }, { hash := PySem.PyData.keyHash P (PySem.Str.ofString "give_unique"), key := PySem.Value.str (PySem.Str.ofString "give_unique") 405, val := PySem.Value.ref 138 }, { hash := PySem.PyData.keyHash P (PySem.Str.ofString "settle_rivals"), key := PySem.Value.str (PySem.Str.ofString "settle_rivals") 411, val := PySem.Value.ref 143 }, { hash := PySem.PyData.keyHash P (PySem.Str.ofString "declare"), key := PySem.Value.str (PySem.Str.ofString "declare") 419, val := PySem.Value.ref 150 }, { hash := PySem.PyData.keyHash P (PySem.Str.ofString "make_ready"), key := PySem.Value.str (PySem.Str.ofString "make_ready") 426, val := PySem.Value.ref 157 }, { hash := PySem.PyData.keyHash P (PySem.Str.ofString "declare_ready"), key := PySem.Value.str (PySem.Str.ofString "declare_ready") 434, val := PySem.Value.ref 164 }, { hash := PySem.PyData.keyHash P (PySem.Str.ofString "note_type"), key := PySem.Value.str (PySem.Str.ofString "note_type") 442, val := PySem.Value.ref 171 }, { hash := PySem.PyData.keyHash P (PySem.Str.ofString "is_own_type"), key := PySem.Value.str (PySem.Str.ofString "is_own_type") 451, val := PySem.Value.ref 178 }, { hash := PySem.PyData.keyHash P (PySem.Str.ofString "abstract_keys"), key := PySem.Value.str (PySem.Str.ofString "abstract_keys") 459, val := PySem.Value.ref 183 }, { hash := PySem.PyData.keyHash P (PySem.Str.ofString "check_concrete"), key := PySem.Value.str (PySem.Str.ofString "check_concrete") 467, val := PySem.Value.ref 190 }, { hash := PySem.PyData.keyHash P (PySem.Str.ofString "check_made"), key := PySem.Value.str (PySem.Str.ofString "check_made") 477, val := PySem.Value.ref 197 }, { hash := PySem.PyData.keyHash P (PySem.Str.ofString "check_bodies"), key := PySem.Value.str (PySem.Str.ofString "check_bodies") 486, val := PySem.Value.ref 204 }, { hash := PySem.PyData.keyHash P (PySem.Str.ofString "raise_missing"), key := PySem.Value.str (PySem.Str.ofString "raise_missing") 494, val := PySem.Value.ref 211 }, { hash := PySem.PyData.keyHash P (PySem.Str.ofString "Scope"), key := PySem.Value.str (PySem.Str.ofString "Scope") 540, val := PySem.Value.ref 228 }, { hash := PySem.PyData.keyHash P (PySem.Str.ofString "Limits"), key := PySem.Value.str (PySem.Str.ofString "Limits") 598, val := PySem.Value.ref 250 }, { hash := PySem.PyData.keyHash P (PySem.Str.ofString "Type"), key := PySem.Value.str (PySem.Str.ofString "Type") 653, val := PySem.Value.ref 271 }, { hash := PySem.PyData.keyHash P (PySem.Str.ofString "Subtype"), key := PySem.Value.str (PySem.Str.ofString "Subtype") 684, val := PySem.Value.ref 292 }, { hash := PySem.PyData.keyHash P (PySem.Str.ofString "record_type"), key := PySem.Value.str (PySem.Str.ofString "record_type") 695, val := PySem.Value.ref 303 }, { hash := PySem.PyData.keyHash P (PySem.Str.ofString "whole_subtype"), key := PySem.Value.str (PySem.Str.ofString "whole_subtype") 702, val := PySem.Value.ref 310 }, { hash := PySem.PyData.keyHash P (PySem.Str.ofString "_law_rung"), key := PySem.Value.str (PySem.Str.ofString "_law_rung") 713, val := PySem.Value.ref 317 }, { hash := PySem.PyData.keyHash P (PySem.Str.ofString "_law_type"), key := PySem.Value.str (PySem.Str.ofString "_law_type") 719, val := PySem.Value.ref 322 }, { hash := PySem.PyData.keyHash P (PySem.Str.ofString "_law_fill"), key := PySem.Value.str (PySem.Str.ofString "_law_fill") 734, val := PySem.Value.ref 329 }, { hash := PySem.PyData.keyHash P (PySem.Str.ofString "law"), key := PySem.Value.str (PySem.Str.ofString "law") 745, val := PySem.Value.ref 336 }] 42 } : Obj)) ::
  (nat_lit 15, ({ cls := PySem.Value.type "tuple", data := PySem.Data.seq #[PySem.Value.type "Exception"] } : Obj)) ::
  (nat_lit 22, ({ cls := PySem.Value.type "tuple", data := PySem.Data.seq #[] } : Obj)) ::
  (nat_lit 24, ({ cls := PySem.Value.type "tuple", data := PySem.Data.seq #[PySem.Value.str (PySem.Str.ofString "self") 204, PySem.Value.str (PySem.Str.ofString "text") 205] } : Obj)) ::
  (nat_lit 25, ({ cls := PySem.Value.type "tuple", data := PySem.Data.seq #[] } : Obj)) ::
  (nat_lit 27, ({ cls := PySem.Value.type "code", data := PySem.Data.fields #[PySem.Value.str (PySem.Str.ofString "__init__") 201, PySem.Value.str (PySem.Str.ofString "AdaError.__init__") 202, PySem.Value.str (PySem.Str.ofString "/claim/cut.py") 203, PySem.Value.int 4 0, PySem.Value.int 2 0, PySem.Value.int 0 0, PySem.Value.int 0 0, PySem.Value.int 3 0, PySem.Value.ref 22, PySem.Value.bool true, PySem.Value.int 181 0, PySem.Value.ref 23, PySem.Value.none, PySem.Value.ref 24, PySem.Value.ref 25, PySem.Value.ref 26, PySem.Value.int 206 0, PySem.Value.int 4 0, PySem.Value.str (PySem.Str.ofString "/claim/cut.py") 207] } : Obj)) ::
  (nat_lit 28, ({ cls := PySem.Value.type "function", data := PySem.Data.func { name := PySem.Str.ofString "__init__", qualname := PySem.Str.ofString "AdaError.__init__", params := pick (e := fnP (nthS (clB (nthS bodyP (nat_lit 1))) (nat_lit 0))) (by conv => lhs; whnf), body := .stmts (pick (e := fnB (nthS (clB (nthS bodyP (nat_lit 1))) (nat_lit 0))) (by conv => lhs; whnf)), scope := pick (e := fnS (nthS (clB (nthS bodyP (nat_lit 1))) (nat_lit 0))) (by conv => lhs; whnf), globals := 3, closure := [], defaults := PySem.Value.none, kwdefaults := PySem.Value.none, pyModule := PySem.Value.str (PySem.Str.ofString "adacore.errors") 187, code := PySem.Value.ref 27 } } : Obj)) ::
  (nat_lit 29, ({ cls := PySem.Value.type "tuple", data := PySem.Data.seq #[PySem.Value.str (PySem.Str.ofString "text") 209] } : Obj)) ::
  (nat_lit 30, ({ cls := PySem.Value.type "dict", data := PySem.Data.dict #[{ hash := PySem.PyData.keyHash P (PySem.Str.ofString "__module__"), key := PySem.Value.str (PySem.Str.ofString "__module__") 196, val := PySem.Value.str (PySem.Str.ofString "adacore.errors") 187 }, { hash := PySem.PyData.keyHash P (PySem.Str.ofString "__firstlineno__"), key := PySem.Value.str (PySem.Str.ofString "__firstlineno__") 200, val := PySem.Value.int 2 199 }, { hash := PySem.PyData.keyHash P (PySem.Str.ofString "__init__"), key := PySem.Value.str (PySem.Str.ofString "__init__") 208, val := PySem.Value.ref 28 }, { hash := PySem.PyData.keyHash P (PySem.Str.ofString "__static_attributes__"), key := PySem.Value.str (PySem.Str.ofString "__static_attributes__") 210, val := PySem.Value.ref 29 }, { hash := PySem.PyData.keyHash P (PySem.Str.ofString "__weakref__"), key := PySem.Value.str (PySem.Str.ofString "__weakref__") 212, val := PySem.Value.ref 32 }, { hash := PySem.PyData.keyHash P (PySem.Str.ofString "__doc__"), key := PySem.Value.str (PySem.Str.ofString "__doc__") 213, val := PySem.Value.none }] 3 } : Obj)) ::
  (nat_lit 31, ({ cls := PySem.Value.type "type", data := PySem.Data.cls { name := PySem.Str.ofString "AdaError", bases := [PySem.Value.type "Exception"], mro := [PySem.Value.ref 31, PySem.Value.type "Exception", PySem.Value.type "BaseException", PySem.Value.type "object"], ns := 30, qualname := PySem.Str.ofString "AdaError", subclasses := [PySem.Value.ref 51] }, slots := #[some (PySem.Value.ref 15), none, some (PySem.Value.str (PySem.Str.ofString "AdaError") 189), some (PySem.Value.str (PySem.Str.ofString "AdaError") 197), some (PySem.Value.builtin "Exception.__new__"), some (PySem.Value.bool true)] } : Obj)) ::
  (nat_lit 32, ({ cls := PySem.Value.type "getset_descriptor", data := PySem.Data.fields #[PySem.Value.str (PySem.Str.ofString "__weakref__") 211, PySem.Value.ref 31, PySem.Value.builtin "ExceptionGroup.__weakref__", PySem.Value.none] } : Obj)) ::
  (nat_lit 35, ({ cls := PySem.Value.type "tuple", data := PySem.Data.seq #[PySem.Value.ref 31] } : Obj)) ::
  (nat_lit 42, ({ cls := PySem.Value.type "tuple", data := PySem.Data.seq #[] } : Obj)) ::
  (nat_lit 44, ({ cls := PySem.Value.type "tuple", data := PySem.Data.seq #[PySem.Value.str (PySem.Str.ofString "self") 233, PySem.Value.str (PySem.Str.ofString "line") 234, PySem.Value.str (PySem.Str.ofString "text") 235] } : Obj)) ::
  (nat_lit 45, ({ cls := PySem.Value.type "tuple", data := PySem.Data.seq #[] } : Obj)) ::
  (nat_lit 47, ({ cls := PySem.Value.type "code", data := PySem.Data.fields #[PySem.Value.str (PySem.Str.ofString "__init__") 230, PySem.Value.str (PySem.Str.ofString "CheckFault.__init__") 231, PySem.Value.str (PySem.Str.ofString "/claim/cut.py") 232, PySem.Value.int 9 0, PySem.Value.int 3 0, PySem.Value.int 0 0, PySem.Value.int 0 0, PySem.Value.int 3 0, PySem.Value.ref 42, PySem.Value.bool true, PySem.Value.int 181 0, PySem.Value.ref 43, PySem.Value.none, PySem.Value.ref 44, PySem.Value.ref 45, PySem.Value.ref 46, PySem.Value.int 236 0, PySem.Value.int 9 0, PySem.Value.str (PySem.Str.ofString "/claim/cut.py") 237] } : Obj)) ::
  (nat_lit 48, ({ cls := PySem.Value.type "function", data := PySem.Data.func { name := PySem.Str.ofString "__init__", qualname := PySem.Str.ofString "CheckFault.__init__", params := pick (e := fnP (nthS (clB (nthS bodyP (nat_lit 2))) (nat_lit 0))) (by conv => lhs; whnf), body := .stmts (pick (e := fnB (nthS (clB (nthS bodyP (nat_lit 2))) (nat_lit 0))) (by conv => lhs; whnf)), scope := pick (e := fnS (nthS (clB (nthS bodyP (nat_lit 2))) (nat_lit 0))) (by conv => lhs; whnf), globals := 3, closure := [], defaults := PySem.Value.none, kwdefaults := PySem.Value.none, pyModule := PySem.Value.str (PySem.Str.ofString "adacore.errors") 187, code := PySem.Value.ref 47 } } : Obj)) ::
  (nat_lit 49, ({ cls := PySem.Value.type "tuple", data := PySem.Data.seq #[PySem.Value.str (PySem.Str.ofString "line") 239] } : Obj)) ::
  (nat_lit 50, ({ cls := PySem.Value.type "dict", data := PySem.Data.dict #[{ hash := PySem.PyData.keyHash P (PySem.Str.ofString "__module__"), key := PySem.Value.str (PySem.Str.ofString "__module__") 225, val := PySem.Value.str (PySem.Str.ofString "adacore.errors") 187 }, { hash := PySem.PyData.keyHash P (PySem.Str.ofString "__firstlineno__"), key := PySem.Value.str (PySem.Str.ofString "__firstlineno__") 229, val := PySem.Value.int 7 228 }, { hash := PySem.PyData.keyHash P (PySem.Str.ofString "__init__"), key := PySem.Value.str (PySem.Str.ofString "__init__") 238, val := PySem.Value.ref 48 }, { hash := PySem.PyData.keyHash P (PySem.Str.ofString "__static_attributes__"), key := PySem.Value.str (PySem.Str.ofString "__static_attributes__") 240, val := PySem.Value.ref 49 }, { hash := PySem.PyData.keyHash P (PySem.Str.ofString "__doc__"), key := PySem.Value.str (PySem.Str.ofString "__doc__") 241, val := PySem.Value.none }] 2 } : Obj)) ::
  (nat_lit 51, ({ cls := PySem.Value.type "type", data := PySem.Data.cls { name := PySem.Str.ofString "CheckFault", bases := [PySem.Value.ref 31], mro := [PySem.Value.ref 51, PySem.Value.ref 31, PySem.Value.type "Exception", PySem.Value.type "BaseException", PySem.Value.type "object"], ns := 50, qualname := PySem.Str.ofString "CheckFault" }, slots := #[some (PySem.Value.ref 35), none, some (PySem.Value.str (PySem.Str.ofString "CheckFault") 218), some (PySem.Value.str (PySem.Str.ofString "CheckFault") 226), some (PySem.Value.builtin "Exception.__new__"), some (PySem.Value.bool true)] } : Obj)) ::
  (nat_lit 54, ({ cls := PySem.Value.type "tuple", data := PySem.Data.seq #[] } : Obj)) ::
  (nat_lit 56, ({ cls := PySem.Value.type "tuple", data := PySem.Data.seq #[PySem.Value.str (PySem.Str.ofString "scope") 249, PySem.Value.str (PySem.Str.ofString "text") 250] } : Obj)) ::
  (nat_lit 57, ({ cls := PySem.Value.type "tuple", data := PySem.Data.seq #[] } : Obj)) ::
  (nat_lit 59, ({ cls := PySem.Value.type "code", data := PySem.Data.fields #[PySem.Value.str (PySem.Str.ofString "refuse") 246, PySem.Value.str (PySem.Str.ofString "refuse") 247, PySem.Value.str (PySem.Str.ofString "/claim/cut.py") 248, PySem.Value.int 13 0, PySem.Value.int 2 0, PySem.Value.int 0 0, PySem.Value.int 0 0, PySem.Value.int 3 0, PySem.Value.ref 54, PySem.Value.bool true, PySem.Value.int 181 0, PySem.Value.ref 55, PySem.Value.none, PySem.Value.ref 56, PySem.Value.ref 57, PySem.Value.ref 58, PySem.Value.int 251 0, PySem.Value.int 13 0, PySem.Value.str (PySem.Str.ofString "/claim/cut.py") 252] } : Obj)) ::
  (nat_lit 60, ({ cls := PySem.Value.type "function", data := PySem.Data.func { name := PySem.Str.ofString "refuse", qualname := PySem.Str.ofString "refuse", params := pick (e := fnP (nthS bodyP (nat_lit 4))) (by conv => lhs; whnf), body := .stmts (pick (e := fnB (nthS bodyP (nat_lit 4))) (by conv => lhs; whnf)), scope := pick (e := fnS (nthS bodyP (nat_lit 4))) (by conv => lhs; whnf), globals := 3, closure := [], defaults := PySem.Value.none, kwdefaults := PySem.Value.none, pyModule := PySem.Value.str (PySem.Str.ofString "adacore.rnames") 244, code := PySem.Value.ref 59 } } : Obj)) ::
  (nat_lit 68, ({ cls := PySem.Value.type "tuple", data := PySem.Data.seq #[] } : Obj)) ::
  (nat_lit 70, ({ cls := PySem.Value.type "tuple", data := PySem.Data.seq #[PySem.Value.str (PySem.Str.ofString "self") 271, PySem.Value.str (PySem.Str.ofString "kind") 272, PySem.Value.str (PySem.Str.ofString "name") 273, PySem.Value.str (PySem.Str.ofString "key") 274, PySem.Value.str (PySem.Str.ofString "subtype") 275, PySem.Value.str (PySem.Str.ofString "data") 276, PySem.Value.str (PySem.Str.ofString "line") 277] } : Obj)) ::
  (nat_lit 71, ({ cls := PySem.Value.type "tuple", data := PySem.Data.seq #[] } : Obj)) ::
  (nat_lit 73, ({ cls := PySem.Value.type "code", data := PySem.Data.fields #[PySem.Value.str (PySem.Str.ofString "__init__") 268, PySem.Value.str (PySem.Str.ofString "Entity.__init__") 269, PySem.Value.str (PySem.Str.ofString "/claim/cut.py") 270, PySem.Value.int 18 0, PySem.Value.int 7 0, PySem.Value.int 0 0, PySem.Value.int 0 0, PySem.Value.int 3 0, PySem.Value.ref 68, PySem.Value.bool true, PySem.Value.int 181 0, PySem.Value.ref 69, PySem.Value.none, PySem.Value.ref 70, PySem.Value.ref 71, PySem.Value.ref 72, PySem.Value.int 278 0, PySem.Value.int 18 0, PySem.Value.str (PySem.Str.ofString "/claim/cut.py") 279] } : Obj)) ::
  (nat_lit 74, ({ cls := PySem.Value.type "function", data := PySem.Data.func { name := PySem.Str.ofString "__init__", qualname := PySem.Str.ofString "Entity.__init__", params := pick (e := fnP (nthS (clB (nthS bodyP (nat_lit 6))) (nat_lit 0))) (by conv => lhs; whnf), body := .stmts (pick (e := fnB (nthS (clB (nthS bodyP (nat_lit 6))) (nat_lit 0))) (by conv => lhs; whnf)), scope := pick (e := fnS (nthS (clB (nthS bodyP (nat_lit 6))) (nat_lit 0))) (by conv => lhs; whnf), globals := 3, closure := [], defaults := PySem.Value.none, kwdefaults := PySem.Value.none, pyModule := PySem.Value.str (PySem.Str.ofString "adacore.entities") 254, code := PySem.Value.ref 73 } } : Obj)) ::
  (nat_lit 75, ({ cls := PySem.Value.type "tuple", data := PySem.Data.seq #[PySem.Value.str (PySem.Str.ofString "data") 281, PySem.Value.str (PySem.Str.ofString "full") 282, PySem.Value.str (PySem.Str.ofString "home") 283, PySem.Value.str (PySem.Str.ofString "is_complete") 284, PySem.Value.str (PySem.Str.ofString "is_constant") 285, PySem.Value.str (PySem.Str.ofString "is_implicit") 286, PySem.Value.str (PySem.Str.ofString "is_overridden") 287, PySem.Value.str (PySem.Str.ofString "is_ready") 288, PySem.Value.str (PySem.Str.ofString "key") 289, PySem.Value.str (PySem.Str.ofString "kind") 290, PySem.Value.str (PySem.Str.ofString "line") 291, PySem.Value.str (PySem.Str.ofString "name") 292, PySem.Value.str (PySem.Str.ofString "number") 293, PySem.Value.str (PySem.Str.ofString "part") 294, PySem.Value.str (PySem.Str.ofString "region") 295, PySem.Value.str (PySem.Str.ofString "subtype") 296, PySem.Value.str (PySem.Str.ofString "unique") 297] } : Obj)) ::
  (nat_lit 76, ({ cls := PySem.Value.type "dict", data := PySem.Data.dict #[{ hash := PySem.PyData.keyHash P (PySem.Str.ofString "__module__"), key := PySem.Value.str (PySem.Str.ofString "__module__") 263, val := PySem.Value.str (PySem.Str.ofString "adacore.entities") 254 }, { hash := PySem.PyData.keyHash P (PySem.Str.ofString "__firstlineno__"), key := PySem.Value.str (PySem.Str.ofString "__firstlineno__") 267, val := PySem.Value.int 16 266 }, { hash := PySem.PyData.keyHash P (PySem.Str.ofString "__init__"), key := PySem.Value.str (PySem.Str.ofString "__init__") 280, val := PySem.Value.ref 74 }, { hash := PySem.PyData.keyHash P (PySem.Str.ofString "__static_attributes__"), key := PySem.Value.str (PySem.Str.ofString "__static_attributes__") 298, val := PySem.Value.ref 75 }, { hash := PySem.PyData.keyHash P (PySem.Str.ofString "__dict__"), key := PySem.Value.str (PySem.Str.ofString "__dict__") 300, val := PySem.Value.ref 78 }, { hash := PySem.PyData.keyHash P (PySem.Str.ofString "__weakref__"), key := PySem.Value.str (PySem.Str.ofString "__weakref__") 302, val := PySem.Value.ref 79 }, { hash := PySem.PyData.keyHash P (PySem.Str.ofString "__doc__"), key := PySem.Value.str (PySem.Str.ofString "__doc__") 303, val := PySem.Value.none }] 4 } : Obj)) ::
  (nat_lit 77, ({ cls := PySem.Value.type "type", data := PySem.Data.cls { name := PySem.Str.ofString "Entity", bases := [PySem.Value.type "object"], mro := [PySem.Value.ref 77, PySem.Value.type "object"], ns := 76, qualname := PySem.Str.ofString "Entity" }, slots := #[none, none, some (PySem.Value.str (PySem.Str.ofString "Entity") 256), some (PySem.Value.str (PySem.Str.ofString "Entity") 264), some (PySem.Value.builtin "object.__new__"), some (PySem.Value.bool true)] } : Obj)) ::
  (nat_lit 78, ({ cls := PySem.Value.type "getset_descriptor", data := PySem.Data.fields #[PySem.Value.str (PySem.Str.ofString "__dict__") 299, PySem.Value.ref 77, PySem.Value.builtin "function.__dict__", PySem.Value.builtin "function.__dict__#set"] } : Obj)) ::
  (nat_lit 79, ({ cls := PySem.Value.type "getset_descriptor", data := PySem.Data.fields #[PySem.Value.str (PySem.Str.ofString "__weakref__") 301, PySem.Value.ref 77, PySem.Value.builtin "ExceptionGroup.__weakref__", PySem.Value.none] } : Obj)) ::
  (nat_lit 82, ({ cls := PySem.Value.type "tuple", data := PySem.Data.seq #[] } : Obj)) ::
  (nat_lit 84, ({ cls := PySem.Value.type "tuple", data := PySem.Data.seq #[PySem.Value.str (PySem.Str.ofString "one") 309, PySem.Value.str (PySem.Str.ofString "other") 310] } : Obj)) ::
  (nat_lit 85, ({ cls := PySem.Value.type "tuple", data := PySem.Data.seq #[] } : Obj)) ::
  (nat_lit 87, ({ cls := PySem.Value.type "code", data := PySem.Data.fields #[PySem.Value.str (PySem.Str.ofString "homographs") 306, PySem.Value.str (PySem.Str.ofString "homographs") 307, PySem.Value.str (PySem.Str.ofString "/claim/cut.py") 308, PySem.Value.int 36 0, PySem.Value.int 2 0, PySem.Value.int 0 0, PySem.Value.int 0 0, PySem.Value.int 3 0, PySem.Value.ref 82, PySem.Value.bool true, PySem.Value.int 181 0, PySem.Value.ref 83, PySem.Value.none, PySem.Value.ref 84, PySem.Value.ref 85, PySem.Value.ref 86, PySem.Value.int 311 0, PySem.Value.int 36 0, PySem.Value.str (PySem.Str.ofString "/claim/cut.py") 312] } : Obj)) ::
  (nat_lit 88, ({ cls := PySem.Value.type "function", data := PySem.Data.func { name := PySem.Str.ofString "homographs", qualname := PySem.Str.ofString "homographs", params := pick (e := fnP (nthS bodyP (nat_lit 7))) (by conv => lhs; whnf), body := .stmts (pick (e := fnB (nthS bodyP (nat_lit 7))) (by conv => lhs; whnf)), scope := pick (e := fnS (nthS bodyP (nat_lit 7))) (by conv => lhs; whnf), globals := 3, closure := [], defaults := PySem.Value.none, kwdefaults := PySem.Value.none, pyModule := PySem.Value.str (PySem.Str.ofString "adacore.entities") 254, code := PySem.Value.ref 87 } } : Obj)) ::
  (nat_lit 89, ({ cls := PySem.Value.type "tuple", data := PySem.Data.seq #[] } : Obj)) ::
  (nat_lit 91, ({ cls := PySem.Value.type "tuple", data := PySem.Data.seq #[PySem.Value.str (PySem.Str.ofString "name") 321, PySem.Value.str (PySem.Str.ofString "number") 322] } : Obj)) ::
  (nat_lit 92, ({ cls := PySem.Value.type "tuple", data := PySem.Data.seq #[] } : Obj)) ::
  (nat_lit 94, ({ cls := PySem.Value.type "code", data := PySem.Data.fields #[PySem.Value.str (PySem.Str.ofString "unique") 318, PySem.Value.str (PySem.Str.ofString "unique") 319, PySem.Value.str (PySem.Str.ofString "/claim/cut.py") 320, PySem.Value.int 42 0, PySem.Value.int 2 0, PySem.Value.int 0 0, PySem.Value.int 0 0, PySem.Value.int 3 0, PySem.Value.ref 89, PySem.Value.bool true, PySem.Value.int 181 0, PySem.Value.ref 90, PySem.Value.none, PySem.Value.ref 91, PySem.Value.ref 92, PySem.Value.ref 93, PySem.Value.int 323 0, PySem.Value.int 42 0, PySem.Value.str (PySem.Str.ofString "/claim/cut.py") 324] } : Obj)) ::
  (nat_lit 95, ({ cls := PySem.Value.type "function", data := PySem.Data.func { name := PySem.Str.ofString "unique", qualname := PySem.Str.ofString "unique", params := pick (e := fnP (nthS bodyP (nat_lit 10))) (by conv => lhs; whnf), body := .stmts (pick (e := fnB (nthS bodyP (nat_lit 10))) (by conv => lhs; whnf)), scope := pick (e := fnS (nthS bodyP (nat_lit 10))) (by conv => lhs; whnf), globals := 3, closure := [], defaults := PySem.Value.none, kwdefaults := PySem.Value.none, pyModule := PySem.Value.str (PySem.Str.ofString "adacore.names") 314, code := PySem.Value.ref 94 } } : Obj)) ::
  (nat_lit 96, ({ cls := PySem.Value.type "tuple", data := PySem.Data.seq #[PySem.Value.str (PySem.Str.ofString "root") 328, PySem.Value.str (PySem.Str.ofString "sub") 329, PySem.Value.str (PySem.Str.ofString "task") 330, PySem.Value.str (PySem.Str.ofString "protected") 331] } : Obj)) ::
  (nat_lit 104, ({ cls := PySem.Value.type "tuple", data := PySem.Data.seq #[] } : Obj)) ::
  (nat_lit 106, ({ cls := PySem.Value.type "tuple", data := PySem.Data.seq #[PySem.Value.str (PySem.Str.ofString "self") 348, PySem.Value.str (PySem.Str.ofString "kind") 349, PySem.Value.str (PySem.Str.ofString "owner") 350, PySem.Value.str (PySem.Str.ofString "parent") 351] } : Obj)) ::
  (nat_lit 107, ({ cls := PySem.Value.type "tuple", data := PySem.Data.seq #[] } : Obj)) ::
  (nat_lit 109, ({ cls := PySem.Value.type "code", data := PySem.Data.fields #[PySem.Value.str (PySem.Str.ofString "__init__") 345, PySem.Value.str (PySem.Str.ofString "Region.__init__") 346, PySem.Value.str (PySem.Str.ofString "/claim/cut.py") 347, PySem.Value.int 48 0, PySem.Value.int 4 0, PySem.Value.int 0 0, PySem.Value.int 0 0, PySem.Value.int 3 0, PySem.Value.ref 104, PySem.Value.bool true, PySem.Value.int 181 0, PySem.Value.ref 105, PySem.Value.none, PySem.Value.ref 106, PySem.Value.ref 107, PySem.Value.ref 108, PySem.Value.int 352 0, PySem.Value.int 48 0, PySem.Value.str (PySem.Str.ofString "/claim/cut.py") 353] } : Obj)) ::
  (nat_lit 110, ({ cls := PySem.Value.type "function", data := PySem.Data.func { name := PySem.Str.ofString "__init__", qualname := PySem.Str.ofString "Region.__init__", params := pick (e := fnP (nthS (clB (nthS bodyP (nat_lit 13))) (nat_lit 0))) (by conv => lhs; whnf), body := .stmts (pick (e := fnB (nthS (clB (nthS bodyP (nat_lit 13))) (nat_lit 0))) (by conv => lhs; whnf)), scope := pick (e := fnS (nthS (clB (nthS bodyP (nat_lit 13))) (nat_lit 0))) (by conv => lhs; whnf), globals := 3, closure := [], defaults := PySem.Value.none, kwdefaults := PySem.Value.none, pyModule := PySem.Value.str (PySem.Str.ofString "adacore.scopes") 326, code := PySem.Value.ref 109 } } : Obj)) ::
  (nat_lit 111, ({ cls := PySem.Value.type "tuple", data := PySem.Data.seq #[PySem.Value.str (PySem.Str.ofString "counts") 355, PySem.Value.str (PySem.Str.ofString "generic") 356, PySem.Value.str (PySem.Str.ofString "kind") 357, PySem.Value.str (PySem.Str.ofString "level") 358, PySem.Value.str (PySem.Str.ofString "made") 359, PySem.Value.str (PySem.Str.ofString "names") 360, PySem.Value.str (PySem.Str.ofString "number") 361, PySem.Value.str (PySem.Str.ofString "order") 362, PySem.Value.str (PySem.Str.ofString "owner") 363, PySem.Value.str (PySem.Str.ofString "parent") 364, PySem.Value.str (PySem.Str.ofString "part") 365, PySem.Value.str (PySem.Str.ofString "root") 366, PySem.Value.str (PySem.Str.ofString "type_homes") 367, PySem.Value.str (PySem.Str.ofString "use_types") 368, PySem.Value.str (PySem.Str.ofString "uses") 369] } : Obj)) ::
  (nat_lit 112, ({ cls := PySem.Value.type "dict", data := PySem.Data.dict #[{ hash := PySem.PyData.keyHash P (PySem.Str.ofString "__module__"), key := PySem.Value.str (PySem.Str.ofString "__module__") 340, val := PySem.Value.str (PySem.Str.ofString "adacore.scopes") 326 }, { hash := PySem.PyData.keyHash P (PySem.Str.ofString "__firstlineno__"), key := PySem.Value.str (PySem.Str.ofString "__firstlineno__") 344, val := PySem.Value.int 46 343 }, { hash := PySem.PyData.keyHash P (PySem.Str.ofString "__init__"), key := PySem.Value.str (PySem.Str.ofString "__init__") 354, val := PySem.Value.ref 110 }, { hash := PySem.PyData.keyHash P (PySem.Str.ofString "__static_attributes__"), key := PySem.Value.str (PySem.Str.ofString "__static_attributes__") 370, val := PySem.Value.ref 111 }, { hash := PySem.PyData.keyHash P (PySem.Str.ofString "__dict__"), key := PySem.Value.str (PySem.Str.ofString "__dict__") 372, val := PySem.Value.ref 114 }, { hash := PySem.PyData.keyHash P (PySem.Str.ofString "__weakref__"), key := PySem.Value.str (PySem.Str.ofString "__weakref__") 374, val := PySem.Value.ref 115 }, { hash := PySem.PyData.keyHash P (PySem.Str.ofString "__doc__"), key := PySem.Value.str (PySem.Str.ofString "__doc__") 375, val := PySem.Value.none }] 4 } : Obj)) ::
  (nat_lit 113, ({ cls := PySem.Value.type "type", data := PySem.Data.cls { name := PySem.Str.ofString "Region", bases := [PySem.Value.type "object"], mro := [PySem.Value.ref 113, PySem.Value.type "object"], ns := 112, qualname := PySem.Str.ofString "Region" }, slots := #[none, none, some (PySem.Value.str (PySem.Str.ofString "Region") 333), some (PySem.Value.str (PySem.Str.ofString "Region") 341), some (PySem.Value.builtin "object.__new__"), some (PySem.Value.bool true)] } : Obj)) ::
  (nat_lit 114, ({ cls := PySem.Value.type "getset_descriptor", data := PySem.Data.fields #[PySem.Value.str (PySem.Str.ofString "__dict__") 371, PySem.Value.ref 113, PySem.Value.builtin "function.__dict__", PySem.Value.builtin "function.__dict__#set"] } : Obj)) ::
  (nat_lit 115, ({ cls := PySem.Value.type "getset_descriptor", data := PySem.Data.fields #[PySem.Value.str (PySem.Str.ofString "__weakref__") 373, PySem.Value.ref 113, PySem.Value.builtin "ExceptionGroup.__weakref__", PySem.Value.none] } : Obj)) ::
  (nat_lit 118, ({ cls := PySem.Value.type "tuple", data := PySem.Data.seq #[] } : Obj)) ::
  (nat_lit 120, ({ cls := PySem.Value.type "tuple", data := PySem.Data.seq #[PySem.Value.str (PySem.Str.ofString "kind") 381, PySem.Value.str (PySem.Str.ofString "owner") 382, PySem.Value.str (PySem.Str.ofString "parent") 383, PySem.Value.str (PySem.Str.ofString "region") 384] } : Obj)) ::
  (nat_lit 121, ({ cls := PySem.Value.type "tuple", data := PySem.Data.seq #[] } : Obj)) ::
  (nat_lit 123, ({ cls := PySem.Value.type "code", data := PySem.Data.fields #[PySem.Value.str (PySem.Str.ofString "open_region") 378, PySem.Value.str (PySem.Str.ofString "open_region") 379, PySem.Value.str (PySem.Str.ofString "/claim/cut.py") 380, PySem.Value.int 65 0, PySem.Value.int 3 0, PySem.Value.int 0 0, PySem.Value.int 0 0, PySem.Value.int 3 0, PySem.Value.ref 118, PySem.Value.bool true, PySem.Value.int 181 0, PySem.Value.ref 119, PySem.Value.none, PySem.Value.ref 120, PySem.Value.ref 121, PySem.Value.ref 122, PySem.Value.int 385 0, PySem.Value.int 65 0, PySem.Value.str (PySem.Str.ofString "/claim/cut.py") 386] } : Obj)) ::
  (nat_lit 124, ({ cls := PySem.Value.type "function", data := PySem.Data.func { name := PySem.Str.ofString "open_region", qualname := PySem.Str.ofString "open_region", params := pick (e := fnP (nthS bodyP (nat_lit 14))) (by conv => lhs; whnf), body := .stmts (pick (e := fnB (nthS bodyP (nat_lit 14))) (by conv => lhs; whnf)), scope := pick (e := fnS (nthS bodyP (nat_lit 14))) (by conv => lhs; whnf), globals := 3, closure := [], defaults := PySem.Value.none, kwdefaults := PySem.Value.none, pyModule := PySem.Value.str (PySem.Str.ofString "adacore.scopes") 326, code := PySem.Value.ref 123 } } : Obj)) ::
  (nat_lit 125, ({ cls := PySem.Value.type "tuple", data := PySem.Data.seq #[] } : Obj)) ::
  (nat_lit 127, ({ cls := PySem.Value.type "tuple", data := PySem.Data.seq #[PySem.Value.str (PySem.Str.ofString "region") 391, PySem.Value.str (PySem.Str.ofString "here") 392] } : Obj)) ::
  (nat_lit 128, ({ cls := PySem.Value.type "tuple", data := PySem.Data.seq #[] } : Obj)) ::
  (nat_lit 130, ({ cls := PySem.Value.type "code", data := PySem.Data.fields #[PySem.Value.str (PySem.Str.ofString "frame_region") 388, PySem.Value.str (PySem.Str.ofString "frame_region") 389, PySem.Value.str (PySem.Str.ofString "/claim/cut.py") 390, PySem.Value.int 70 0, PySem.Value.int 1 0, PySem.Value.int 0 0, PySem.Value.int 0 0, PySem.Value.int 3 0, PySem.Value.ref 125, PySem.Value.bool true, PySem.Value.int 181 0, PySem.Value.ref 126, PySem.Value.none, PySem.Value.ref 127, PySem.Value.ref 128, PySem.Value.ref 129, PySem.Value.int 393 0, PySem.Value.int 70 0, PySem.Value.str (PySem.Str.ofString "/claim/cut.py") 394] } : Obj)) ::
  (nat_lit 131, ({ cls := PySem.Value.type "function", data := PySem.Data.func { name := PySem.Str.ofString "frame_region", qualname := PySem.Str.ofString "frame_region", params := pick (e := fnP (nthS bodyP (nat_lit 15))) (by conv => lhs; whnf), body := .stmts (pick (e := fnB (nthS bodyP (nat_lit 15))) (by conv => lhs; whnf)), scope := pick (e := fnS (nthS bodyP (nat_lit 15))) (by conv => lhs; whnf), globals := 3, closure := [], defaults := PySem.Value.none, kwdefaults := PySem.Value.none, pyModule := PySem.Value.str (PySem.Str.ofString "adacore.scopes") 326, code := PySem.Value.ref 130 } } : Obj)) ::
  (nat_lit 132, ({ cls := PySem.Value.type "tuple", data := PySem.Data.seq #[] } : Obj)) ::
  (nat_lit 134, ({ cls := PySem.Value.type "tuple", data := PySem.Data.seq #[PySem.Value.str (PySem.Str.ofString "region") 399, PySem.Value.str (PySem.Str.ofString "entity") 400, PySem.Value.str (PySem.Str.ofString "frame") 401, PySem.Value.str (PySem.Str.ofString "count") 402] } : Obj)) ::
  (nat_lit 135, ({ cls := PySem.Value.type "tuple", data := PySem.Data.seq #[] } : Obj)) ::
  (nat_lit 137, ({ cls := PySem.Value.type "code", data := PySem.Data.fields #[PySem.Value.str (PySem.Str.ofString "give_unique") 396, PySem.Value.str (PySem.Str.ofString "give_unique") 397, PySem.Value.str (PySem.Str.ofString "/claim/cut.py") 398, PySem.Value.int 75 0, PySem.Value.int 2 0, PySem.Value.int 0 0, PySem.Value.int 0 0, PySem.Value.int 3 0, PySem.Value.ref 132, PySem.Value.bool true, PySem.Value.int 181 0, PySem.Value.ref 133, PySem.Value.none, PySem.Value.ref 134, PySem.Value.ref 135, PySem.Value.ref 136, PySem.Value.int 403 0, PySem.Value.int 75 0, PySem.Value.str (PySem.Str.ofString "/claim/cut.py") 404] } : Obj)) ::
  (nat_lit 138, ({ cls := PySem.Value.type "function", data := PySem.Data.func { name := PySem.Str.ofString "give_unique", qualname := PySem.Str.ofString "give_unique", params := pick (e := fnP (nthS bodyP (nat_lit 16))) (by conv => lhs; whnf), body := .stmts (pick (e := fnB (nthS bodyP (nat_lit 16))) (by conv => lhs; whnf)), scope := pick (e := fnS (nthS bodyP (nat_lit 16))) (by conv => lhs; whnf), globals := 3, closure := [], defaults := PySem.Value.none, kwdefaults := PySem.Value.none, pyModule := PySem.Value.str (PySem.Str.ofString "adacore.scopes") 326, code := PySem.Value.ref 137 } } : Obj)) ::
  (nat_lit 139, ({ cls := PySem.Value.type "tuple", data := PySem.Data.seq #[] } : Obj)) ::
  (nat_lit 142, ({ cls := PySem.Value.type "code", data := PySem.Data.fields #[PySem.Value.str (PySem.Str.ofString "settle_rivals") 406, PySem.Value.str (PySem.Str.ofString "settle_rivals") 407, PySem.Value.str (PySem.Str.ofString "/claim/cut.py") 408, PySem.Value.int 80 0, PySem.Value.int 2 0, PySem.Value.int 0 0, PySem.Value.int 0 0, PySem.Value.int 3 0, PySem.Value.ref 139, PySem.Value.bool true, PySem.Value.int 181 0, PySem.Value.ref 140, PySem.Value.none, PySem.Value.none, PySem.Value.none, PySem.Value.ref 141, PySem.Value.int 409 0, PySem.Value.int 80 0, PySem.Value.str (PySem.Str.ofString "/claim/cut.py") 410] } : Obj)) ::
  (nat_lit 143, ({ cls := PySem.Value.type "function", data := PySem.Data.func { name := PySem.Str.ofString "settle_rivals", qualname := PySem.Str.ofString "settle_rivals", params := pick (e := fnP (nthS bodyP (nat_lit 17))) (by conv => lhs; whnf), body := .stmts (pick (e := fnB (nthS bodyP (nat_lit 17))) (by conv => lhs; whnf)), scope := pick (e := fnS (nthS bodyP (nat_lit 17))) (by conv => lhs; whnf), globals := 3, closure := [], defaults := PySem.Value.none, kwdefaults := PySem.Value.none, pyModule := PySem.Value.str (PySem.Str.ofString "adacore.scopes") 326, code := PySem.Value.ref 142 } } : Obj)) ::
  (nat_lit 144, ({ cls := PySem.Value.type "tuple", data := PySem.Data.seq #[] } : Obj)) ::
  (nat_lit 146, ({ cls := PySem.Value.type "tuple", data := PySem.Data.seq #[PySem.Value.str (PySem.Str.ofString "region") 415, PySem.Value.str (PySem.Str.ofString "entity") 416] } : Obj)) ::
  (nat_lit 147, ({ cls := PySem.Value.type "tuple", data := PySem.Data.seq #[] } : Obj)) ::
  (nat_lit 149, ({ cls := PySem.Value.type "code", data := PySem.Data.fields #[PySem.Value.str (PySem.Str.ofString "declare") 412, PySem.Value.str (PySem.Str.ofString "declare") 413, PySem.Value.str (PySem.Str.ofString "/claim/cut.py") 414, PySem.Value.int 90 0, PySem.Value.int 2 0, PySem.Value.int 0 0, PySem.Value.int 0 0, PySem.Value.int 3 0, PySem.Value.ref 144, PySem.Value.bool true, PySem.Value.int 181 0, PySem.Value.ref 145, PySem.Value.none, PySem.Value.ref 146, PySem.Value.ref 147, PySem.Value.ref 148, PySem.Value.int 417 0, PySem.Value.int 90 0, PySem.Value.str (PySem.Str.ofString "/claim/cut.py") 418] } : Obj)) ::
  (nat_lit 150, ({ cls := PySem.Value.type "function", data := PySem.Data.func { name := PySem.Str.ofString "declare", qualname := PySem.Str.ofString "declare", params := pick (e := fnP (nthS bodyP (nat_lit 18))) (by conv => lhs; whnf), body := .stmts (pick (e := fnB (nthS bodyP (nat_lit 18))) (by conv => lhs; whnf)), scope := pick (e := fnS (nthS bodyP (nat_lit 18))) (by conv => lhs; whnf), globals := 3, closure := [], defaults := PySem.Value.none, kwdefaults := PySem.Value.none, pyModule := PySem.Value.str (PySem.Str.ofString "adacore.scopes") 326, code := PySem.Value.ref 149 } } : Obj)) ::
  (nat_lit 151, ({ cls := PySem.Value.type "tuple", data := PySem.Data.seq #[] } : Obj)) ::
  (nat_lit 153, ({ cls := PySem.Value.type "tuple", data := PySem.Data.seq #[PySem.Value.str (PySem.Str.ofString "entity") 423] } : Obj)) ::
  (nat_lit 154, ({ cls := PySem.Value.type "tuple", data := PySem.Data.seq #[] } : Obj)) ::
  (nat_lit 156, ({ cls := PySem.Value.type "code", data := PySem.Data.fields #[PySem.Value.str (PySem.Str.ofString "make_ready") 420, PySem.Value.str (PySem.Str.ofString "make_ready") 421, PySem.Value.str (PySem.Str.ofString "/claim/cut.py") 422, PySem.Value.int 101 0, PySem.Value.int 1 0, PySem.Value.int 0 0, PySem.Value.int 0 0, PySem.Value.int 3 0, PySem.Value.ref 151, PySem.Value.bool true, PySem.Value.int 181 0, PySem.Value.ref 152, PySem.Value.none, PySem.Value.ref 153, PySem.Value.ref 154, PySem.Value.ref 155, PySem.Value.int 424 0, PySem.Value.int 101 0, PySem.Value.str (PySem.Str.ofString "/claim/cut.py") 425] } : Obj)) ::
  (nat_lit 157, ({ cls := PySem.Value.type "function", data := PySem.Data.func { name := PySem.Str.ofString "make_ready", qualname := PySem.Str.ofString "make_ready", params := pick (e := fnP (nthS bodyP (nat_lit 19))) (by conv => lhs; whnf), body := .stmts (pick (e := fnB (nthS bodyP (nat_lit 19))) (by conv => lhs; whnf)), scope := pick (e := fnS (nthS bodyP (nat_lit 19))) (by conv => lhs; whnf), globals := 3, closure := [], defaults := PySem.Value.none, kwdefaults := PySem.Value.none, pyModule := PySem.Value.str (PySem.Str.ofString "adacore.scopes") 326, code := PySem.Value.ref 156 } } : Obj)) ::
  (nat_lit 158, ({ cls := PySem.Value.type "tuple", data := PySem.Data.seq #[] } : Obj)) ::
  (nat_lit 160, ({ cls := PySem.Value.type "tuple", data := PySem.Data.seq #[PySem.Value.str (PySem.Str.ofString "region") 430, PySem.Value.str (PySem.Str.ofString "entity") 431] } : Obj)) ::
  (nat_lit 161, ({ cls := PySem.Value.type "tuple", data := PySem.Data.seq #[] } : Obj)) ::
  (nat_lit 163, ({ cls := PySem.Value.type "code", data := PySem.Data.fields #[PySem.Value.str (PySem.Str.ofString "declare_ready") 427, PySem.Value.str (PySem.Str.ofString "declare_ready") 428, PySem.Value.str (PySem.Str.ofString "/claim/cut.py") 429, PySem.Value.int 103 0, PySem.Value.int 2 0, PySem.Value.int 0 0, PySem.Value.int 0 0, PySem.Value.int 3 0, PySem.Value.ref 158, PySem.Value.bool true, PySem.Value.int 181 0, PySem.Value.ref 159, PySem.Value.none, PySem.Value.ref 160, PySem.Value.ref 161, PySem.Value.ref 162, PySem.Value.int 432 0, PySem.Value.int 103 0, PySem.Value.str (PySem.Str.ofString "/claim/cut.py") 433] } : Obj)) ::
  (nat_lit 164, ({ cls := PySem.Value.type "function", data := PySem.Data.func { name := PySem.Str.ofString "declare_ready", qualname := PySem.Str.ofString "declare_ready", params := pick (e := fnP (nthS bodyP (nat_lit 20))) (by conv => lhs; whnf), body := .stmts (pick (e := fnB (nthS bodyP (nat_lit 20))) (by conv => lhs; whnf)), scope := pick (e := fnS (nthS bodyP (nat_lit 20))) (by conv => lhs; whnf), globals := 3, closure := [], defaults := PySem.Value.none, kwdefaults := PySem.Value.none, pyModule := PySem.Value.str (PySem.Str.ofString "adacore.scopes") 326, code := PySem.Value.ref 163 } } : Obj)) ::
  (nat_lit 165, ({ cls := PySem.Value.type "tuple", data := PySem.Data.seq #[] } : Obj)) ::
  (nat_lit 167, ({ cls := PySem.Value.type "tuple", data := PySem.Data.seq #[PySem.Value.str (PySem.Str.ofString "region") 438, PySem.Value.str (PySem.Str.ofString "number") 439] } : Obj)) ::
  (nat_lit 168, ({ cls := PySem.Value.type "tuple", data := PySem.Data.seq #[] } : Obj)) ::
  (nat_lit 170, ({ cls := PySem.Value.type "code", data := PySem.Data.fields #[PySem.Value.str (PySem.Str.ofString "note_type") 435, PySem.Value.str (PySem.Str.ofString "note_type") 436, PySem.Value.str (PySem.Str.ofString "/claim/cut.py") 437, PySem.Value.int 106 0, PySem.Value.int 2 0, PySem.Value.int 0 0, PySem.Value.int 0 0, PySem.Value.int 3 0, PySem.Value.ref 165, PySem.Value.bool true, PySem.Value.int 181 0, PySem.Value.ref 166, PySem.Value.none, PySem.Value.ref 167, PySem.Value.ref 168, PySem.Value.ref 169, PySem.Value.int 440 0, PySem.Value.int 106 0, PySem.Value.str (PySem.Str.ofString "/claim/cut.py") 441] } : Obj)) ::
  (nat_lit 171, ({ cls := PySem.Value.type "function", data := PySem.Data.func { name := PySem.Str.ofString "note_type", qualname := PySem.Str.ofString "note_type", params := pick (e := fnP (nthS bodyP (nat_lit 21))) (by conv => lhs; whnf), body := .stmts (pick (e := fnB (nthS bodyP (nat_lit 21))) (by conv => lhs; whnf)), scope := pick (e := fnS (nthS bodyP (nat_lit 21))) (by conv => lhs; whnf), globals := 3, closure := [], defaults := PySem.Value.none, kwdefaults := PySem.Value.none, pyModule := PySem.Value.str (PySem.Str.ofString "adacore.scopes") 326, code := PySem.Value.ref 170 } } : Obj)) ::
  (nat_lit 172, ({ cls := PySem.Value.type "tuple", data := PySem.Data.seq #[] } : Obj)) ::
  (nat_lit 174, ({ cls := PySem.Value.type "tuple", data := PySem.Data.seq #[PySem.Value.str (PySem.Str.ofString "region") 446, PySem.Value.str (PySem.Str.ofString "number") 447, PySem.Value.str (PySem.Str.ofString "home") 448] } : Obj)) ::
  (nat_lit 175, ({ cls := PySem.Value.type "tuple", data := PySem.Data.seq #[] } : Obj)) ::
  (nat_lit 177, ({ cls := PySem.Value.type "code", data := PySem.Data.fields #[PySem.Value.str (PySem.Str.ofString "is_own_type") 443, PySem.Value.str (PySem.Str.ofString "is_own_type") 444, PySem.Value.str (PySem.Str.ofString "/claim/cut.py") 445, PySem.Value.int 108 0, PySem.Value.int 2 0, PySem.Value.int 0 0, PySem.Value.int 0 0, PySem.Value.int 3 0, PySem.Value.ref 172, PySem.Value.bool true, PySem.Value.int 181 0, PySem.Value.ref 173, PySem.Value.none, PySem.Value.ref 174, PySem.Value.ref 175, PySem.Value.ref 176, PySem.Value.int 449 0, PySem.Value.int 108 0, PySem.Value.str (PySem.Str.ofString "/claim/cut.py") 450] } : Obj)) ::
  (nat_lit 178, ({ cls := PySem.Value.type "function", data := PySem.Data.func { name := PySem.Str.ofString "is_own_type", qualname := PySem.Str.ofString "is_own_type", params := pick (e := fnP (nthS bodyP (nat_lit 22))) (by conv => lhs; whnf), body := .stmts (pick (e := fnB (nthS bodyP (nat_lit 22))) (by conv => lhs; whnf)), scope := pick (e := fnS (nthS bodyP (nat_lit 22))) (by conv => lhs; whnf), globals := 3, closure := [], defaults := PySem.Value.none, kwdefaults := PySem.Value.none, pyModule := PySem.Value.str (PySem.Str.ofString "adacore.scopes") 326, code := PySem.Value.ref 177 } } : Obj)) ::
  (nat_lit 179, ({ cls := PySem.Value.type "tuple", data := PySem.Data.seq #[] } : Obj)) ::
  (nat_lit 182, ({ cls := PySem.Value.type "code", data := PySem.Data.fields #[PySem.Value.str (PySem.Str.ofString "abstract_keys") 454, PySem.Value.str (PySem.Str.ofString "abstract_keys") 455, PySem.Value.str (PySem.Str.ofString "/claim/cut.py") 456, PySem.Value.int 112 0, PySem.Value.int 1 0, PySem.Value.int 0 0, PySem.Value.int 0 0, PySem.Value.int 3 0, PySem.Value.ref 179, PySem.Value.bool true, PySem.Value.int 181 0, PySem.Value.ref 180, PySem.Value.none, PySem.Value.none, PySem.Value.none, PySem.Value.ref 181, PySem.Value.int 457 0, PySem.Value.int 112 0, PySem.Value.str (PySem.Str.ofString "/claim/cut.py") 458] } : Obj)) ::
  (nat_lit 183, ({ cls := PySem.Value.type "function", data := PySem.Data.func { name := PySem.Str.ofString "abstract_keys", qualname := PySem.Str.ofString "abstract_keys", params := pick (e := fnP (nthS bodyP (nat_lit 24))) (by conv => lhs; whnf), body := .stmts (pick (e := fnB (nthS bodyP (nat_lit 24))) (by conv => lhs; whnf)), scope := pick (e := fnS (nthS bodyP (nat_lit 24))) (by conv => lhs; whnf), globals := 3, closure := [], defaults := PySem.Value.none, kwdefaults := PySem.Value.none, pyModule := PySem.Value.str (PySem.Str.ofString "adacore.tagged") 452, code := PySem.Value.ref 182 } } : Obj)) ::
  (nat_lit 184, ({ cls := PySem.Value.type "tuple", data := PySem.Data.seq #[] } : Obj)) ::
  (nat_lit 186, ({ cls := PySem.Value.type "tuple", data := PySem.Data.seq #[PySem.Value.str (PySem.Str.ofString "kind") 463, PySem.Value.str (PySem.Str.ofString "line") 464] } : Obj)) ::
  (nat_lit 187, ({ cls := PySem.Value.type "tuple", data := PySem.Data.seq #[] } : Obj)) ::
  (nat_lit 189, ({ cls := PySem.Value.type "code", data := PySem.Data.fields #[PySem.Value.str (PySem.Str.ofString "check_concrete") 460, PySem.Value.str (PySem.Str.ofString "check_concrete") 461, PySem.Value.str (PySem.Str.ofString "/claim/cut.py") 462, PySem.Value.int 114 0, PySem.Value.int 2 0, PySem.Value.int 0 0, PySem.Value.int 0 0, PySem.Value.int 3 0, PySem.Value.ref 184, PySem.Value.bool true, PySem.Value.int 181 0, PySem.Value.ref 185, PySem.Value.none, PySem.Value.ref 186, PySem.Value.ref 187, PySem.Value.ref 188, PySem.Value.int 465 0, PySem.Value.int 114 0, PySem.Value.str (PySem.Str.ofString "/claim/cut.py") 466] } : Obj)) ::
  (nat_lit 190, ({ cls := PySem.Value.type "function", data := PySem.Data.func { name := PySem.Str.ofString "check_concrete", qualname := PySem.Str.ofString "check_concrete", params := pick (e := fnP (nthS bodyP (nat_lit 25))) (by conv => lhs; whnf), body := .stmts (pick (e := fnB (nthS bodyP (nat_lit 25))) (by conv => lhs; whnf)), scope := pick (e := fnS (nthS bodyP (nat_lit 25))) (by conv => lhs; whnf), globals := 3, closure := [], defaults := PySem.Value.none, kwdefaults := PySem.Value.none, pyModule := PySem.Value.str (PySem.Str.ofString "adacore.tagged") 452, code := PySem.Value.ref 189 } } : Obj)) ::
  (nat_lit 191, ({ cls := PySem.Value.type "tuple", data := PySem.Data.seq #[] } : Obj)) ::
  (nat_lit 193, ({ cls := PySem.Value.type "tuple", data := PySem.Data.seq #[PySem.Value.str (PySem.Str.ofString "entity") 473, PySem.Value.str (PySem.Str.ofString "t") 474] } : Obj)) ::
  (nat_lit 194, ({ cls := PySem.Value.type "tuple", data := PySem.Data.seq #[] } : Obj)) ::
  (nat_lit 196, ({ cls := PySem.Value.type "code", data := PySem.Data.fields #[PySem.Value.str (PySem.Str.ofString "check_made") 470, PySem.Value.str (PySem.Str.ofString "check_made") 471, PySem.Value.str (PySem.Str.ofString "/claim/cut.py") 472, PySem.Value.int 118 0, PySem.Value.int 1 0, PySem.Value.int 0 0, PySem.Value.int 0 0, PySem.Value.int 3 0, PySem.Value.ref 191, PySem.Value.bool true, PySem.Value.int 181 0, PySem.Value.ref 192, PySem.Value.none, PySem.Value.ref 193, PySem.Value.ref 194, PySem.Value.ref 195, PySem.Value.int 475 0, PySem.Value.int 118 0, PySem.Value.str (PySem.Str.ofString "/claim/cut.py") 476] } : Obj)) ::
  (nat_lit 197, ({ cls := PySem.Value.type "function", data := PySem.Data.func { name := PySem.Str.ofString "check_made", qualname := PySem.Str.ofString "check_made", params := pick (e := fnP (nthS bodyP (nat_lit 27))) (by conv => lhs; whnf), body := .stmts (pick (e := fnB (nthS bodyP (nat_lit 27))) (by conv => lhs; whnf)), scope := pick (e := fnS (nthS bodyP (nat_lit 27))) (by conv => lhs; whnf), globals := 3, closure := [], defaults := PySem.Value.none, kwdefaults := PySem.Value.none, pyModule := PySem.Value.str (PySem.Str.ofString "adacore.rsubs") 468, code := PySem.Value.ref 196 } } : Obj)) ::
  (nat_lit 198, ({ cls := PySem.Value.type "tuple", data := PySem.Data.seq #[] } : Obj)) ::
  (nat_lit 200, ({ cls := PySem.Value.type "tuple", data := PySem.Data.seq #[PySem.Value.str (PySem.Str.ofString "scope") 481, PySem.Value.str (PySem.Str.ofString "region") 482, PySem.Value.str (PySem.Str.ofString "entity") 483] } : Obj)) ::
  (nat_lit 201, ({ cls := PySem.Value.type "tuple", data := PySem.Data.seq #[] } : Obj)) ::
  (nat_lit 203, ({ cls := PySem.Value.type "code", data := PySem.Data.fields #[PySem.Value.str (PySem.Str.ofString "check_bodies") 478, PySem.Value.str (PySem.Str.ofString "check_bodies") 479, PySem.Value.str (PySem.Str.ofString "/claim/cut.py") 480, PySem.Value.int 122 0, PySem.Value.int 2 0, PySem.Value.int 0 0, PySem.Value.int 0 0, PySem.Value.int 3 0, PySem.Value.ref 198, PySem.Value.bool true, PySem.Value.int 181 0, PySem.Value.ref 199, PySem.Value.none, PySem.Value.ref 200, PySem.Value.ref 201, PySem.Value.ref 202, PySem.Value.int 484 0, PySem.Value.int 122 0, PySem.Value.str (PySem.Str.ofString "/claim/cut.py") 485] } : Obj)) ::
  (nat_lit 204, ({ cls := PySem.Value.type "function", data := PySem.Data.func { name := PySem.Str.ofString "check_bodies", qualname := PySem.Str.ofString "check_bodies", params := pick (e := fnP (nthS bodyP (nat_lit 28))) (by conv => lhs; whnf), body := .stmts (pick (e := fnB (nthS bodyP (nat_lit 28))) (by conv => lhs; whnf)), scope := pick (e := fnS (nthS bodyP (nat_lit 28))) (by conv => lhs; whnf), globals := 3, closure := [], defaults := PySem.Value.none, kwdefaults := PySem.Value.none, pyModule := PySem.Value.str (PySem.Str.ofString "adacore.rsubs") 468, code := PySem.Value.ref 203 } } : Obj)) ::
  (nat_lit 205, ({ cls := PySem.Value.type "tuple", data := PySem.Data.seq #[] } : Obj)) ::
  (nat_lit 207, ({ cls := PySem.Value.type "tuple", data := PySem.Data.seq #[PySem.Value.str (PySem.Str.ofString "scope") 490, PySem.Value.str (PySem.Str.ofString "entity") 491] } : Obj)) ::
  (nat_lit 208, ({ cls := PySem.Value.type "tuple", data := PySem.Data.seq #[] } : Obj)) ::
  (nat_lit 210, ({ cls := PySem.Value.type "code", data := PySem.Data.fields #[PySem.Value.str (PySem.Str.ofString "raise_missing") 487, PySem.Value.str (PySem.Str.ofString "raise_missing") 488, PySem.Value.str (PySem.Str.ofString "/claim/cut.py") 489, PySem.Value.int 132 0, PySem.Value.int 2 0, PySem.Value.int 0 0, PySem.Value.int 0 0, PySem.Value.int 3 0, PySem.Value.ref 205, PySem.Value.bool true, PySem.Value.int 181 0, PySem.Value.ref 206, PySem.Value.none, PySem.Value.ref 207, PySem.Value.ref 208, PySem.Value.ref 209, PySem.Value.int 492 0, PySem.Value.int 132 0, PySem.Value.str (PySem.Str.ofString "/claim/cut.py") 493] } : Obj)) ::
  (nat_lit 211, ({ cls := PySem.Value.type "function", data := PySem.Data.func { name := PySem.Str.ofString "raise_missing", qualname := PySem.Str.ofString "raise_missing", params := pick (e := fnP (nthS bodyP (nat_lit 29))) (by conv => lhs; whnf), body := .stmts (pick (e := fnB (nthS bodyP (nat_lit 29))) (by conv => lhs; whnf)), scope := pick (e := fnS (nthS bodyP (nat_lit 29))) (by conv => lhs; whnf), globals := 3, closure := [], defaults := PySem.Value.none, kwdefaults := PySem.Value.none, pyModule := PySem.Value.str (PySem.Str.ofString "adacore.rsubs") 468, code := PySem.Value.ref 210 } } : Obj)) ::
  (nat_lit 219, ({ cls := PySem.Value.type "tuple", data := PySem.Data.seq #[] } : Obj)) ::
  (nat_lit 221, ({ cls := PySem.Value.type "tuple", data := PySem.Data.seq #[PySem.Value.str (PySem.Str.ofString "self") 512, PySem.Value.str (PySem.Str.ofString "place") 513, PySem.Value.str (PySem.Str.ofString "limits") 514, PySem.Value.str (PySem.Str.ofString "choose") 515, PySem.Value.str (PySem.Str.ofString "types") 516] } : Obj)) ::
  (nat_lit 222, ({ cls := PySem.Value.type "tuple", data := PySem.Data.seq #[] } : Obj)) ::
  (nat_lit 224, ({ cls := PySem.Value.type "code", data := PySem.Data.fields #[PySem.Value.str (PySem.Str.ofString "__init__") 509, PySem.Value.str (PySem.Str.ofString "Scope.__init__") 510, PySem.Value.str (PySem.Str.ofString "/claim/cut.py") 511, PySem.Value.int 138 0, PySem.Value.int 5 0, PySem.Value.int 0 0, PySem.Value.int 0 0, PySem.Value.int 3 0, PySem.Value.ref 219, PySem.Value.bool true, PySem.Value.int 181 0, PySem.Value.ref 220, PySem.Value.none, PySem.Value.ref 221, PySem.Value.ref 222, PySem.Value.ref 223, PySem.Value.int 517 0, PySem.Value.int 138 0, PySem.Value.str (PySem.Str.ofString "/claim/cut.py") 518] } : Obj)) ::
  (nat_lit 225, ({ cls := PySem.Value.type "function", data := PySem.Data.func { name := PySem.Str.ofString "__init__", qualname := PySem.Str.ofString "Scope.__init__", params := pick (e := fnP (nthS (clB (nthS bodyP (nat_lit 31))) (nat_lit 0))) (by conv => lhs; whnf), body := .stmts (pick (e := fnB (nthS (clB (nthS bodyP (nat_lit 31))) (nat_lit 0))) (by conv => lhs; whnf)), scope := pick (e := fnS (nthS (clB (nthS bodyP (nat_lit 31))) (nat_lit 0))) (by conv => lhs; whnf), globals := 3, closure := [], defaults := PySem.Value.none, kwdefaults := PySem.Value.none, pyModule := PySem.Value.str (PySem.Str.ofString "adacore.context") 495, code := PySem.Value.ref 224 } } : Obj)) ::
  (nat_lit 226, ({ cls := PySem.Value.type "tuple", data := PySem.Data.seq #[PySem.Value.str (PySem.Str.ofString "builders") 520, PySem.Value.str (PySem.Str.ofString "choose") 521, PySem.Value.str (PySem.Str.ofString "count") 522, PySem.Value.str (PySem.Str.ofString "declarations") 523, PySem.Value.str (PySem.Str.ofString "limits") 524, PySem.Value.str (PySem.Str.ofString "line") 525, PySem.Value.str (PySem.Str.ofString "place") 526, PySem.Value.str (PySem.Str.ofString "statements") 527, PySem.Value.str (PySem.Str.ofString "static") 528, PySem.Value.str (PySem.Str.ofString "typed") 529, PySem.Value.str (PySem.Str.ofString "types") 530, PySem.Value.str (PySem.Str.ofString "under_way") 531, PySem.Value.str (PySem.Str.ofString "ways") 532] } : Obj)) ::
  (nat_lit 227, ({ cls := PySem.Value.type "dict", data := PySem.Data.dict #[{ hash := PySem.PyData.keyHash P (PySem.Str.ofString "__module__"), key := PySem.Value.str (PySem.Str.ofString "__module__") 504, val := PySem.Value.str (PySem.Str.ofString "adacore.context") 495 }, { hash := PySem.PyData.keyHash P (PySem.Str.ofString "__firstlineno__"), key := PySem.Value.str (PySem.Str.ofString "__firstlineno__") 508, val := PySem.Value.int 136 507 }, { hash := PySem.PyData.keyHash P (PySem.Str.ofString "__init__"), key := PySem.Value.str (PySem.Str.ofString "__init__") 519, val := PySem.Value.ref 225 }, { hash := PySem.PyData.keyHash P (PySem.Str.ofString "__static_attributes__"), key := PySem.Value.str (PySem.Str.ofString "__static_attributes__") 533, val := PySem.Value.ref 226 }, { hash := PySem.PyData.keyHash P (PySem.Str.ofString "__dict__"), key := PySem.Value.str (PySem.Str.ofString "__dict__") 535, val := PySem.Value.ref 229 }, { hash := PySem.PyData.keyHash P (PySem.Str.ofString "__weakref__"), key := PySem.Value.str (PySem.Str.ofString "__weakref__") 537, val := PySem.Value.ref 230 }, { hash := PySem.PyData.keyHash P (PySem.Str.ofString "__doc__"), key := PySem.Value.str (PySem.Str.ofString "__doc__") 538, val := PySem.Value.none }] 4 } : Obj)) ::
  (nat_lit 228, ({ cls := PySem.Value.type "type", data := PySem.Data.cls { name := PySem.Str.ofString "Scope", bases := [PySem.Value.type "object"], mro := [PySem.Value.ref 228, PySem.Value.type "object"], ns := 227, qualname := PySem.Str.ofString "Scope" }, slots := #[none, none, some (PySem.Value.str (PySem.Str.ofString "Scope") 497), some (PySem.Value.str (PySem.Str.ofString "Scope") 505), some (PySem.Value.builtin "object.__new__"), some (PySem.Value.bool true)] } : Obj)) ::
  (nat_lit 229, ({ cls := PySem.Value.type "getset_descriptor", data := PySem.Data.fields #[PySem.Value.str (PySem.Str.ofString "__dict__") 534, PySem.Value.ref 228, PySem.Value.builtin "function.__dict__", PySem.Value.builtin "function.__dict__#set"] } : Obj)) ::
  (nat_lit 230, ({ cls := PySem.Value.type "getset_descriptor", data := PySem.Data.fields #[PySem.Value.str (PySem.Str.ofString "__weakref__") 536, PySem.Value.ref 228, PySem.Value.builtin "ExceptionGroup.__weakref__", PySem.Value.none] } : Obj)) ::
  (nat_lit 240, ({ cls := PySem.Value.type "tuple", data := PySem.Data.seq #[PySem.Value.int 32 555, PySem.Value.int 1000000 558, PySem.Value.int 50 559, PySem.Value.int 10000 562, PySem.Value.int 100000 565, PySem.Value.int 50 566, PySem.Value.int 1000000 569] } : Obj)) ::
  (nat_lit 241, ({ cls := PySem.Value.type "tuple", data := PySem.Data.seq #[] } : Obj)) ::
  (nat_lit 243, ({ cls := PySem.Value.type "tuple", data := PySem.Data.seq #[PySem.Value.str (PySem.Str.ofString "self") 573, PySem.Value.str (PySem.Str.ofString "width") 574, PySem.Value.str (PySem.Str.ofString "steps") 575, PySem.Value.str (PySem.Str.ofString "depth") 576, PySem.Value.str (PySem.Str.ofString "members") 577, PySem.Value.str (PySem.Str.ofString "text") 578, PySem.Value.str (PySem.Str.ofString "tasks") 579, PySem.Value.str (PySem.Str.ofString "heap") 580] } : Obj)) ::
  (nat_lit 244, ({ cls := PySem.Value.type "tuple", data := PySem.Data.seq #[] } : Obj)) ::
  (nat_lit 246, ({ cls := PySem.Value.type "code", data := PySem.Data.fields #[PySem.Value.str (PySem.Str.ofString "__init__") 570, PySem.Value.str (PySem.Str.ofString "Limits.__init__") 571, PySem.Value.str (PySem.Str.ofString "/claim/cut.py") 572, PySem.Value.int 155 0, PySem.Value.int 8 0, PySem.Value.int 0 0, PySem.Value.int 0 0, PySem.Value.int 3 0, PySem.Value.ref 241, PySem.Value.bool true, PySem.Value.int 181 0, PySem.Value.ref 242, PySem.Value.none, PySem.Value.ref 243, PySem.Value.ref 244, PySem.Value.ref 245, PySem.Value.int 581 0, PySem.Value.int 155 0, PySem.Value.str (PySem.Str.ofString "/claim/cut.py") 582] } : Obj)) ::
  (nat_lit 247, ({ cls := PySem.Value.type "function", data := PySem.Data.func { name := PySem.Str.ofString "__init__", qualname := PySem.Str.ofString "Limits.__init__", params := pick (e := fnP (nthS (clB (nthS bodyP (nat_lit 33))) (nat_lit 0))) (by conv => lhs; whnf), body := .stmts (pick (e := fnB (nthS (clB (nthS bodyP (nat_lit 33))) (nat_lit 0))) (by conv => lhs; whnf)), scope := pick (e := fnS (nthS (clB (nthS bodyP (nat_lit 33))) (nat_lit 0))) (by conv => lhs; whnf), globals := 3, closure := [], defaults := PySem.Value.ref 240, kwdefaults := PySem.Value.none, pyModule := PySem.Value.str (PySem.Str.ofString "adacore.limits") 541, code := PySem.Value.ref 246 } } : Obj)) ::
  (nat_lit 248, ({ cls := PySem.Value.type "tuple", data := PySem.Data.seq #[PySem.Value.str (PySem.Str.ofString "depth") 584, PySem.Value.str (PySem.Str.ofString "heap") 585, PySem.Value.str (PySem.Str.ofString "members") 586, PySem.Value.str (PySem.Str.ofString "steps") 587, PySem.Value.str (PySem.Str.ofString "tasks") 588, PySem.Value.str (PySem.Str.ofString "text") 589, PySem.Value.str (PySem.Str.ofString "width") 590] } : Obj)) ::
  (nat_lit 249, ({ cls := PySem.Value.type "dict", data := PySem.Data.dict #[{ hash := PySem.PyData.keyHash P (PySem.Str.ofString "__module__"), key := PySem.Value.str (PySem.Str.ofString "__module__") 550, val := PySem.Value.str (PySem.Str.ofString "adacore.limits") 541 }, { hash := PySem.PyData.keyHash P (PySem.Str.ofString "__firstlineno__"), key := PySem.Value.str (PySem.Str.ofString "__firstlineno__") 554, val := PySem.Value.int 153 553 }, { hash := PySem.PyData.keyHash P (PySem.Str.ofString "__init__"), key := PySem.Value.str (PySem.Str.ofString "__init__") 583, val := PySem.Value.ref 247 }, { hash := PySem.PyData.keyHash P (PySem.Str.ofString "__static_attributes__"), key := PySem.Value.str (PySem.Str.ofString "__static_attributes__") 591, val := PySem.Value.ref 248 }, { hash := PySem.PyData.keyHash P (PySem.Str.ofString "__dict__"), key := PySem.Value.str (PySem.Str.ofString "__dict__") 593, val := PySem.Value.ref 251 }, { hash := PySem.PyData.keyHash P (PySem.Str.ofString "__weakref__"), key := PySem.Value.str (PySem.Str.ofString "__weakref__") 595, val := PySem.Value.ref 252 }, { hash := PySem.PyData.keyHash P (PySem.Str.ofString "__doc__"), key := PySem.Value.str (PySem.Str.ofString "__doc__") 596, val := PySem.Value.none }] 4 } : Obj)) ::
  (nat_lit 250, ({ cls := PySem.Value.type "type", data := PySem.Data.cls { name := PySem.Str.ofString "Limits", bases := [PySem.Value.type "object"], mro := [PySem.Value.ref 250, PySem.Value.type "object"], ns := 249, qualname := PySem.Str.ofString "Limits" }, slots := #[none, none, some (PySem.Value.str (PySem.Str.ofString "Limits") 543), some (PySem.Value.str (PySem.Str.ofString "Limits") 551), some (PySem.Value.builtin "object.__new__"), some (PySem.Value.bool true)] } : Obj)) ::
  (nat_lit 251, ({ cls := PySem.Value.type "getset_descriptor", data := PySem.Data.fields #[PySem.Value.str (PySem.Str.ofString "__dict__") 592, PySem.Value.ref 250, PySem.Value.builtin "function.__dict__", PySem.Value.builtin "function.__dict__#set"] } : Obj)) ::
  (nat_lit 252, ({ cls := PySem.Value.type "getset_descriptor", data := PySem.Data.fields #[PySem.Value.str (PySem.Str.ofString "__weakref__") 594, PySem.Value.ref 250, PySem.Value.builtin "ExceptionGroup.__weakref__", PySem.Value.none] } : Obj)) ::
  (nat_lit 262, ({ cls := PySem.Value.type "tuple", data := PySem.Data.seq #[] } : Obj)) ::
  (nat_lit 264, ({ cls := PySem.Value.type "tuple", data := PySem.Data.seq #[PySem.Value.str (PySem.Str.ofString "self") 616, PySem.Value.str (PySem.Str.ofString "kind") 617, PySem.Value.str (PySem.Str.ofString "name") 618] } : Obj)) ::
  (nat_lit 265, ({ cls := PySem.Value.type "tuple", data := PySem.Data.seq #[] } : Obj)) ::
  (nat_lit 267, ({ cls := PySem.Value.type "code", data := PySem.Data.fields #[PySem.Value.str (PySem.Str.ofString "__init__") 613, PySem.Value.str (PySem.Str.ofString "Type.__init__") 614, PySem.Value.str (PySem.Str.ofString "/claim/cut.py") 615, PySem.Value.int 166 0, PySem.Value.int 3 0, PySem.Value.int 0 0, PySem.Value.int 0 0, PySem.Value.int 3 0, PySem.Value.ref 262, PySem.Value.bool true, PySem.Value.int 181 0, PySem.Value.ref 263, PySem.Value.none, PySem.Value.ref 264, PySem.Value.ref 265, PySem.Value.ref 266, PySem.Value.int 619 0, PySem.Value.int 166 0, PySem.Value.str (PySem.Str.ofString "/claim/cut.py") 620] } : Obj)) ::
  (nat_lit 268, ({ cls := PySem.Value.type "function", data := PySem.Data.func { name := PySem.Str.ofString "__init__", qualname := PySem.Str.ofString "Type.__init__", params := pick (e := fnP (nthS (clB (nthS bodyP (nat_lit 35))) (nat_lit 0))) (by conv => lhs; whnf), body := .stmts (pick (e := fnB (nthS (clB (nthS bodyP (nat_lit 35))) (nat_lit 0))) (by conv => lhs; whnf)), scope := pick (e := fnS (nthS (clB (nthS bodyP (nat_lit 35))) (nat_lit 0))) (by conv => lhs; whnf), globals := 3, closure := [], defaults := PySem.Value.none, kwdefaults := PySem.Value.none, pyModule := PySem.Value.str (PySem.Str.ofString "adacore.types") 599, code := PySem.Value.ref 267 } } : Obj)) ::
  (nat_lit 269, ({ cls := PySem.Value.type "tuple", data := PySem.Data.seq #[PySem.Value.str (PySem.Str.ofString "component") 622, PySem.Value.str (PySem.Str.ofString "components") 623, PySem.Value.str (PySem.Str.ofString "designated") 624, PySem.Value.str (PySem.Str.ofString "discriminants") 625, PySem.Value.str (PySem.Str.ofString "high") 626, PySem.Value.str (PySem.Str.ofString "index") 627, PySem.Value.str (PySem.Str.ofString "is_abstract") 628, PySem.Value.str (PySem.Str.ofString "is_constant") 629, PySem.Value.str (PySem.Str.ofString "is_constrained") 630, PySem.Value.str (PySem.Str.ofString "is_late") 631, PySem.Value.str (PySem.Str.ofString "is_limited") 632, PySem.Value.str (PySem.Str.ofString "is_private") 633, PySem.Value.str (PySem.Str.ofString "is_tagged") 634, PySem.Value.str (PySem.Str.ofString "kind") 635, PySem.Value.str (PySem.Str.ofString "literals") 636, PySem.Value.str (PySem.Str.ofString "low") 637, PySem.Value.str (PySem.Str.ofString "modulus") 638, PySem.Value.str (PySem.Str.ofString "name") 639, PySem.Value.str (PySem.Str.ofString "number") 640, PySem.Value.str (PySem.Str.ofString "operations") 641, PySem.Value.str (PySem.Str.ofString "parent") 642, PySem.Value.str (PySem.Str.ofString "small") 643, PySem.Value.str (PySem.Str.ofString "variant") 644, PySem.Value.str (PySem.Str.ofString "wide") 645] } : Obj)) ::
  (nat_lit 270, ({ cls := PySem.Value.type "dict", data := PySem.Data.dict #[{ hash := PySem.PyData.keyHash P (PySem.Str.ofString "__module__"), key := PySem.Value.str (PySem.Str.ofString "__module__") 608, val := PySem.Value.str (PySem.Str.ofString "adacore.types") 599 }, { hash := PySem.PyData.keyHash P (PySem.Str.ofString "__firstlineno__"), key := PySem.Value.str (PySem.Str.ofString "__firstlineno__") 612, val := PySem.Value.int 164 611 }, { hash := PySem.PyData.keyHash P (PySem.Str.ofString "__init__"), key := PySem.Value.str (PySem.Str.ofString "__init__") 621, val := PySem.Value.ref 268 }, { hash := PySem.PyData.keyHash P (PySem.Str.ofString "__static_attributes__"), key := PySem.Value.str (PySem.Str.ofString "__static_attributes__") 646, val := PySem.Value.ref 269 }, { hash := PySem.PyData.keyHash P (PySem.Str.ofString "__dict__"), key := PySem.Value.str (PySem.Str.ofString "__dict__") 648, val := PySem.Value.ref 272 }, { hash := PySem.PyData.keyHash P (PySem.Str.ofString "__weakref__"), key := PySem.Value.str (PySem.Str.ofString "__weakref__") 650, val := PySem.Value.ref 273 }, { hash := PySem.PyData.keyHash P (PySem.Str.ofString "__doc__"), key := PySem.Value.str (PySem.Str.ofString "__doc__") 651, val := PySem.Value.none }] 4 } : Obj)) ::
  (nat_lit 271, ({ cls := PySem.Value.type "type", data := PySem.Data.cls { name := PySem.Str.ofString "Type", bases := [PySem.Value.type "object"], mro := [PySem.Value.ref 271, PySem.Value.type "object"], ns := 270, qualname := PySem.Str.ofString "Type" }, slots := #[none, none, some (PySem.Value.str (PySem.Str.ofString "Type") 601), some (PySem.Value.str (PySem.Str.ofString "Type") 609), some (PySem.Value.builtin "object.__new__"), some (PySem.Value.bool true)] } : Obj)) ::
  (nat_lit 272, ({ cls := PySem.Value.type "getset_descriptor", data := PySem.Data.fields #[PySem.Value.str (PySem.Str.ofString "__dict__") 647, PySem.Value.ref 271, PySem.Value.builtin "function.__dict__", PySem.Value.builtin "function.__dict__#set"] } : Obj)) ::
  (nat_lit 273, ({ cls := PySem.Value.type "getset_descriptor", data := PySem.Data.fields #[PySem.Value.str (PySem.Str.ofString "__weakref__") 649, PySem.Value.ref 271, PySem.Value.builtin "ExceptionGroup.__weakref__", PySem.Value.none] } : Obj)) ::
  (nat_lit 283, ({ cls := PySem.Value.type "tuple", data := PySem.Data.seq #[] } : Obj)) ::
  (nat_lit 285, ({ cls := PySem.Value.type "tuple", data := PySem.Data.seq #[PySem.Value.str (PySem.Str.ofString "self") 669, PySem.Value.str (PySem.Str.ofString "t") 670, PySem.Value.str (PySem.Str.ofString "constraint") 671] } : Obj)) ::
  (nat_lit 286, ({ cls := PySem.Value.type "tuple", data := PySem.Data.seq #[] } : Obj)) ::
  (nat_lit 288, ({ cls := PySem.Value.type "code", data := PySem.Data.fields #[PySem.Value.str (PySem.Str.ofString "__init__") 666, PySem.Value.str (PySem.Str.ofString "Subtype.__init__") 667, PySem.Value.str (PySem.Str.ofString "/claim/cut.py") 668, PySem.Value.int 193 0, PySem.Value.int 3 0, PySem.Value.int 0 0, PySem.Value.int 0 0, PySem.Value.int 3 0, PySem.Value.ref 283, PySem.Value.bool true, PySem.Value.int 181 0, PySem.Value.ref 284, PySem.Value.none, PySem.Value.ref 285, PySem.Value.ref 286, PySem.Value.ref 287, PySem.Value.int 672 0, PySem.Value.int 193 0, PySem.Value.str (PySem.Str.ofString "/claim/cut.py") 673] } : Obj)) ::
  (nat_lit 289, ({ cls := PySem.Value.type "function", data := PySem.Data.func { name := PySem.Str.ofString "__init__", qualname := PySem.Str.ofString "Subtype.__init__", params := pick (e := fnP (nthS (clB (nthS bodyP (nat_lit 36))) (nat_lit 0))) (by conv => lhs; whnf), body := .stmts (pick (e := fnB (nthS (clB (nthS bodyP (nat_lit 36))) (nat_lit 0))) (by conv => lhs; whnf)), scope := pick (e := fnS (nthS (clB (nthS bodyP (nat_lit 36))) (nat_lit 0))) (by conv => lhs; whnf), globals := 3, closure := [], defaults := PySem.Value.none, kwdefaults := PySem.Value.none, pyModule := PySem.Value.str (PySem.Str.ofString "adacore.types") 599, code := PySem.Value.ref 288 } } : Obj)) ::
  (nat_lit 290, ({ cls := PySem.Value.type "tuple", data := PySem.Data.seq #[PySem.Value.str (PySem.Str.ofString "constraint") 675, PySem.Value.str (PySem.Str.ofString "type") 676] } : Obj)) ::
  (nat_lit 291, ({ cls := PySem.Value.type "dict", data := PySem.Data.dict #[{ hash := PySem.PyData.keyHash P (PySem.Str.ofString "__module__"), key := PySem.Value.str (PySem.Str.ofString "__module__") 661, val := PySem.Value.str (PySem.Str.ofString "adacore.types") 599 }, { hash := PySem.PyData.keyHash P (PySem.Str.ofString "__firstlineno__"), key := PySem.Value.str (PySem.Str.ofString "__firstlineno__") 665, val := PySem.Value.int 191 664 }, { hash := PySem.PyData.keyHash P (PySem.Str.ofString "__init__"), key := PySem.Value.str (PySem.Str.ofString "__init__") 674, val := PySem.Value.ref 289 }, { hash := PySem.PyData.keyHash P (PySem.Str.ofString "__static_attributes__"), key := PySem.Value.str (PySem.Str.ofString "__static_attributes__") 677, val := PySem.Value.ref 290 }, { hash := PySem.PyData.keyHash P (PySem.Str.ofString "__dict__"), key := PySem.Value.str (PySem.Str.ofString "__dict__") 679, val := PySem.Value.ref 293 }, { hash := PySem.PyData.keyHash P (PySem.Str.ofString "__weakref__"), key := PySem.Value.str (PySem.Str.ofString "__weakref__") 681, val := PySem.Value.ref 294 }, { hash := PySem.PyData.keyHash P (PySem.Str.ofString "__doc__"), key := PySem.Value.str (PySem.Str.ofString "__doc__") 682, val := PySem.Value.none }] 4 } : Obj)) ::
  (nat_lit 292, ({ cls := PySem.Value.type "type", data := PySem.Data.cls { name := PySem.Str.ofString "Subtype", bases := [PySem.Value.type "object"], mro := [PySem.Value.ref 292, PySem.Value.type "object"], ns := 291, qualname := PySem.Str.ofString "Subtype" }, slots := #[none, none, some (PySem.Value.str (PySem.Str.ofString "Subtype") 654), some (PySem.Value.str (PySem.Str.ofString "Subtype") 662), some (PySem.Value.builtin "object.__new__"), some (PySem.Value.bool true)] } : Obj)) ::
  (nat_lit 293, ({ cls := PySem.Value.type "getset_descriptor", data := PySem.Data.fields #[PySem.Value.str (PySem.Str.ofString "__dict__") 678, PySem.Value.ref 292, PySem.Value.builtin "function.__dict__", PySem.Value.builtin "function.__dict__#set"] } : Obj)) ::
  (nat_lit 294, ({ cls := PySem.Value.type "getset_descriptor", data := PySem.Data.fields #[PySem.Value.str (PySem.Str.ofString "__weakref__") 680, PySem.Value.ref 292, PySem.Value.builtin "ExceptionGroup.__weakref__", PySem.Value.none] } : Obj)) ::
  (nat_lit 297, ({ cls := PySem.Value.type "tuple", data := PySem.Data.seq #[] } : Obj)) ::
  (nat_lit 299, ({ cls := PySem.Value.type "tuple", data := PySem.Data.seq #[PySem.Value.str (PySem.Str.ofString "name") 688, PySem.Value.str (PySem.Str.ofString "discriminants") 689, PySem.Value.str (PySem.Str.ofString "components") 690, PySem.Value.str (PySem.Str.ofString "variant") 691, PySem.Value.str (PySem.Str.ofString "made") 692] } : Obj)) ::
  (nat_lit 300, ({ cls := PySem.Value.type "tuple", data := PySem.Data.seq #[] } : Obj)) ::
  (nat_lit 302, ({ cls := PySem.Value.type "code", data := PySem.Data.fields #[PySem.Value.str (PySem.Str.ofString "record_type") 685, PySem.Value.str (PySem.Str.ofString "record_type") 686, PySem.Value.str (PySem.Str.ofString "/claim/cut.py") 687, PySem.Value.int 196 0, PySem.Value.int 4 0, PySem.Value.int 0 0, PySem.Value.int 0 0, PySem.Value.int 3 0, PySem.Value.ref 297, PySem.Value.bool true, PySem.Value.int 181 0, PySem.Value.ref 298, PySem.Value.none, PySem.Value.ref 299, PySem.Value.ref 300, PySem.Value.ref 301, PySem.Value.int 693 0, PySem.Value.int 196 0, PySem.Value.str (PySem.Str.ofString "/claim/cut.py") 694] } : Obj)) ::
  (nat_lit 303, ({ cls := PySem.Value.type "function", data := PySem.Data.func { name := PySem.Str.ofString "record_type", qualname := PySem.Str.ofString "record_type", params := pick (e := fnP (nthS bodyP (nat_lit 37))) (by conv => lhs; whnf), body := .stmts (pick (e := fnB (nthS bodyP (nat_lit 37))) (by conv => lhs; whnf)), scope := pick (e := fnS (nthS bodyP (nat_lit 37))) (by conv => lhs; whnf), globals := 3, closure := [], defaults := PySem.Value.none, kwdefaults := PySem.Value.none, pyModule := PySem.Value.str (PySem.Str.ofString "adacore.types") 599, code := PySem.Value.ref 302 } } : Obj)) ::
  (nat_lit 304, ({ cls := PySem.Value.type "tuple", data := PySem.Data.seq #[] } : Obj)) ::
  (nat_lit 306, ({ cls := PySem.Value.type "tuple", data := PySem.Data.seq #[PySem.Value.str (PySem.Str.ofString "t") 699] } : Obj)) ::
  (nat_lit 307, ({ cls := PySem.Value.type "tuple", data := PySem.Data.seq #[] } : Obj)) ::
  (nat_lit 309, ({ cls := PySem.Value.type "code", data := PySem.Data.fields #[PySem.Value.str (PySem.Str.ofString "whole_subtype") 696, PySem.Value.str (PySem.Str.ofString "whole_subtype") 697, PySem.Value.str (PySem.Str.ofString "/claim/cut.py") 698, PySem.Value.int 203 0, PySem.Value.int 1 0, PySem.Value.int 0 0, PySem.Value.int 0 0, PySem.Value.int 3 0, PySem.Value.ref 304, PySem.Value.bool true, PySem.Value.int 181 0, PySem.Value.ref 305, PySem.Value.none, PySem.Value.ref 306, PySem.Value.ref 307, PySem.Value.ref 308, PySem.Value.int 700 0, PySem.Value.int 203 0, PySem.Value.str (PySem.Str.ofString "/claim/cut.py") 701] } : Obj)) ::
  (nat_lit 310, ({ cls := PySem.Value.type "function", data := PySem.Data.func { name := PySem.Str.ofString "whole_subtype", qualname := PySem.Str.ofString "whole_subtype", params := pick (e := fnP (nthS bodyP (nat_lit 38))) (by conv => lhs; whnf), body := .stmts (pick (e := fnB (nthS bodyP (nat_lit 38))) (by conv => lhs; whnf)), scope := pick (e := fnS (nthS bodyP (nat_lit 38))) (by conv => lhs; whnf), globals := 3, closure := [], defaults := PySem.Value.none, kwdefaults := PySem.Value.none, pyModule := PySem.Value.str (PySem.Str.ofString "adacore.types") 599, code := PySem.Value.ref 309 } } : Obj)) ::
  (nat_lit 311, ({ cls := PySem.Value.type "tuple", data := PySem.Data.seq #[] } : Obj)) ::
  (nat_lit 313, ({ cls := PySem.Value.type "tuple", data := PySem.Data.seq #[PySem.Value.str (PySem.Str.ofString "ladder") 708, PySem.Value.str (PySem.Str.ofString "many") 709, PySem.Value.str (PySem.Str.ofString "at") 710] } : Obj)) ::
  (nat_lit 314, ({ cls := PySem.Value.type "tuple", data := PySem.Data.seq #[] } : Obj)) ::
  (nat_lit 316, ({ cls := PySem.Value.type "code", data := PySem.Data.fields #[PySem.Value.str (PySem.Str.ofString "_law_rung") 705, PySem.Value.str (PySem.Str.ofString "_law_rung") 706, PySem.Value.str (PySem.Str.ofString "/claim/cut.py") 707, PySem.Value.int 206 0, PySem.Value.int 2 0, PySem.Value.int 0 0, PySem.Value.int 0 0, PySem.Value.int 3 0, PySem.Value.ref 311, PySem.Value.bool true, PySem.Value.int 181 0, PySem.Value.ref 312, PySem.Value.none, PySem.Value.ref 313, PySem.Value.ref 314, PySem.Value.ref 315, PySem.Value.int 711 0, PySem.Value.int 206 0, PySem.Value.str (PySem.Str.ofString "/claim/cut.py") 712] } : Obj)) ::
  (nat_lit 317, ({ cls := PySem.Value.type "function", data := PySem.Data.func { name := PySem.Str.ofString "_law_rung", qualname := PySem.Str.ofString "_law_rung", params := pick (e := fnP (nthS bodyP (nat_lit 40))) (by conv => lhs; whnf), body := .stmts (pick (e := fnB (nthS bodyP (nat_lit 40))) (by conv => lhs; whnf)), scope := pick (e := fnS (nthS bodyP (nat_lit 40))) (by conv => lhs; whnf), globals := 3, closure := [], defaults := PySem.Value.none, kwdefaults := PySem.Value.none, pyModule := PySem.Value.str (PySem.Str.ofString "law_rg0009_01") 703, code := PySem.Value.ref 316 } } : Obj)) ::
  (nat_lit 318, ({ cls := PySem.Value.type "tuple", data := PySem.Data.seq #[] } : Obj)) ::
  (nat_lit 321, ({ cls := PySem.Value.type "code", data := PySem.Data.fields #[PySem.Value.str (PySem.Str.ofString "_law_type") 714, PySem.Value.str (PySem.Str.ofString "_law_type") 715, PySem.Value.str (PySem.Str.ofString "/claim/cut.py") 716, PySem.Value.int 210 0, PySem.Value.int 3 0, PySem.Value.int 0 0, PySem.Value.int 0 0, PySem.Value.int 3 0, PySem.Value.ref 318, PySem.Value.bool true, PySem.Value.int 181 0, PySem.Value.ref 319, PySem.Value.none, PySem.Value.none, PySem.Value.none, PySem.Value.ref 320, PySem.Value.int 717 0, PySem.Value.int 210 0, PySem.Value.str (PySem.Str.ofString "/claim/cut.py") 718] } : Obj)) ::
  (nat_lit 322, ({ cls := PySem.Value.type "function", data := PySem.Data.func { name := PySem.Str.ofString "_law_type", qualname := PySem.Str.ofString "_law_type", params := pick (e := fnP (nthS bodyP (nat_lit 41))) (by conv => lhs; whnf), body := .stmts (pick (e := fnB (nthS bodyP (nat_lit 41))) (by conv => lhs; whnf)), scope := pick (e := fnS (nthS bodyP (nat_lit 41))) (by conv => lhs; whnf), globals := 3, closure := [], defaults := PySem.Value.none, kwdefaults := PySem.Value.none, pyModule := PySem.Value.str (PySem.Str.ofString "law_rg0009_01") 703, code := PySem.Value.ref 321 } } : Obj)) ::
  (nat_lit 323, ({ cls := PySem.Value.type "tuple", data := PySem.Data.seq #[] } : Obj)) ::
  (nat_lit 325, ({ cls := PySem.Value.type "tuple", data := PySem.Data.seq #[PySem.Value.str (PySem.Str.ofString "ladder") 723, PySem.Value.str (PySem.Str.ofString "region") 724, PySem.Value.str (PySem.Str.ofString "deep") 725, PySem.Value.str (PySem.Str.ofString "is_let") 726, PySem.Value.str (PySem.Str.ofString "turn") 727, PySem.Value.str (PySem.Str.ofString "name") 728, PySem.Value.str (PySem.Str.ofString "way") 729, PySem.Value.str (PySem.Str.ofString "entity") 730, PySem.Value.str (PySem.Str.ofString "is_inner") 731] } : Obj)) ::
  (nat_lit 326, ({ cls := PySem.Value.type "tuple", data := PySem.Data.seq #[] } : Obj)) ::
  (nat_lit 328, ({ cls := PySem.Value.type "code", data := PySem.Data.fields #[PySem.Value.str (PySem.Str.ofString "_law_fill") 720, PySem.Value.str (PySem.Str.ofString "_law_fill") 721, PySem.Value.str (PySem.Str.ofString "/claim/cut.py") 722, PySem.Value.int 225 0, PySem.Value.int 3 0, PySem.Value.int 0 0, PySem.Value.int 0 0, PySem.Value.int 3 0, PySem.Value.ref 323, PySem.Value.bool true, PySem.Value.int 181 0, PySem.Value.ref 324, PySem.Value.none, PySem.Value.ref 325, PySem.Value.ref 326, PySem.Value.ref 327, PySem.Value.int 732 0, PySem.Value.int 225 0, PySem.Value.str (PySem.Str.ofString "/claim/cut.py") 733] } : Obj)) ::
  (nat_lit 329, ({ cls := PySem.Value.type "function", data := PySem.Data.func { name := PySem.Str.ofString "_law_fill", qualname := PySem.Str.ofString "_law_fill", params := pick (e := fnP (nthS bodyP (nat_lit 42))) (by conv => lhs; whnf), body := .stmts (pick (e := fnB (nthS bodyP (nat_lit 42))) (by conv => lhs; whnf)), scope := pick (e := fnS (nthS bodyP (nat_lit 42))) (by conv => lhs; whnf), globals := 3, closure := [], defaults := PySem.Value.none, kwdefaults := PySem.Value.none, pyModule := PySem.Value.str (PySem.Str.ofString "law_rg0009_01") 703, code := PySem.Value.ref 328 } } : Obj)) ::
  (nat_lit 330, ({ cls := PySem.Value.type "tuple", data := PySem.Data.seq #[] } : Obj)) ::
  (nat_lit 332, ({ cls := PySem.Value.type "tuple", data := PySem.Data.seq #[PySem.Value.str (PySem.Str.ofString "script") 738, PySem.Value.str (PySem.Str.ofString "ladder") 739, PySem.Value.str (PySem.Str.ofString "region") 740, PySem.Value.str (PySem.Str.ofString "scope") 741, PySem.Value.str (PySem.Str.ofString "is_let") 742] } : Obj)) ::
  (nat_lit 333, ({ cls := PySem.Value.type "tuple", data := PySem.Data.seq #[] } : Obj)) ::
  (nat_lit 335, ({ cls := PySem.Value.type "code", data := PySem.Data.fields #[PySem.Value.str (PySem.Str.ofString "law") 735, PySem.Value.str (PySem.Str.ofString "law") 736, PySem.Value.str (PySem.Str.ofString "/claim/cut.py") 737, PySem.Value.int 243 0, PySem.Value.int 1 0, PySem.Value.int 0 0, PySem.Value.int 0 0, PySem.Value.int 3 0, PySem.Value.ref 330, PySem.Value.bool true, PySem.Value.int 181 0, PySem.Value.ref 331, PySem.Value.none, PySem.Value.ref 332, PySem.Value.ref 333, PySem.Value.ref 334, PySem.Value.int 743 0, PySem.Value.int 243 0, PySem.Value.str (PySem.Str.ofString "/claim/cut.py") 744] } : Obj)) ::
  (nat_lit 336, ({ cls := PySem.Value.type "function", data := PySem.Data.func { name := PySem.Str.ofString "law", qualname := PySem.Str.ofString "law", params := pick (e := fnP (nthS bodyP (nat_lit 43))) (by conv => lhs; whnf), body := .stmts (pick (e := fnB (nthS bodyP (nat_lit 43))) (by conv => lhs; whnf)), scope := pick (e := fnS (nthS bodyP (nat_lit 43))) (by conv => lhs; whnf), globals := 3, closure := [], defaults := PySem.Value.none, kwdefaults := PySem.Value.none, pyModule := PySem.Value.str (PySem.Str.ofString "law_rg0009_01") 703, code := PySem.Value.ref 335 } } : Obj)) :: []
end Mine
end
section
open PySem PySem.W PyProof.Rows
namespace Mine
noncomputable def q0 : Program := view PySem.Challenge.pw_rg0009_01 [1,2,4,6,7,9,10,12,13,14,15,16,17,18,19,20,21,22,24,25,27,28,29,31,33,35,36,37,38,40,41,42,43]
noncomputable def addrs : List Addr := [2, 3, 15, 22, 24, 25, 27, 28, 29, 30, 31, 32, 35, 42, 44, 45, 47, 48, 49, 50, 51, 54, 56, 57, 59, 60, 68, 70, 71, 73, 74, 75, 76, 77, 78, 79, 82, 84, 85, 87, 88, 89, 91, 92, 94, 95, 96, 104, 106, 107, 109, 110, 111, 112, 113, 114, 115, 118, 120, 121, 123, 124, 125, 127, 128, 130, 131, 132, 134, 135, 137, 138, 139, 142, 143, 144, 146, 147, 149, 150, 151, 153, 154, 156, 157, 158, 160, 161, 163, 164, 165, 167, 168, 170, 171, 172, 174, 175, 177, 178, 179, 182, 183, 184, 186, 187, 189, 190, 191, 193, 194, 196, 197, 198, 200, 201, 203, 204, 205, 207, 208, 210, 211, 219, 221, 222, 224, 225, 226, 227, 228, 229, 230, 240, 241, 243, 244, 246, 247, 248, 249, 250, 251, 252, 262, 264, 265, 267, 268, 269, 270, 271, 272, 273, 283, 285, 286, 288, 289, 290, 291, 292, 293, 294, 297, 299, 300, 302, 303, 304, 306, 307, 309, 310, 311, 313, 314, 316, 317, 318, 321, 322, 323, 325, 326, 328, 329, 330, 332, 333, 335, 336]
noncomputable def hk0 : Hook := kHook K addrs (fun P => by kernel_rfl)
noncomputable abbrev pP : Program := PySem.Challenge.pw_rg0009_01
abbrev pos0 : Pos := { line := 0, col := 0, endLine := 0, endCol := 0 }
noncomputable def env0 : Env := { scope := PySem.Challenge.pw_rg0009_01.main.scope, locals := mainNs, globals := mainNs, cells := [], code := .ref 13, frame := some 14 }
noncomputable def code0 : Code := Code.body (behindTheImports PySem.Challenge.pw_rg0009_01) env0
def u0 : Obj := { cls := .type "tuple", data := .seq #[] }
def u1 : Obj := { cls := .none, data := .fields #[] }
def u2 : Obj := { cls := .type "code", data := .fields #[.str (Str.ofString "<module>") 182, .str (Str.ofString "<module>") 183, .str (Str.ofString "/claim/cut.py") 184, .int 1 0, .int 0 0, .int 0 0, .int 0 0, .int 0 0, .ref 11, .bool false, .int 181 0, .ref 12, .none, .none, .none, .none, .int 185 0, .int 1 0, .str (Str.ofString "/claim/cut.py") 186] }
def u3 : Obj := { cls := .type "frame", slots := #[some (.ref 13), some (.ref 3), some (.ref 3), none, some (.str (Str.ofString "__main__") 164), none, some (.ref 0)] }
noncomputable def tr0 (P : Params) : BT := .node (boot_o_0 P) (.node (boot_o_1 P) (.node (boot_o_3 P) (.node (boot_o_7 P) .nil .nil) (.node u0 .nil .nil)) (.node (boot_o_5 P) (.node (boot_o_9 P) .nil .nil) (.node u2 .nil .nil)))
  (.node (boot_o_2 P) (.node (boot_o_4 P) (.node (boot_o_8 P) .nil .nil) (.node u1 .nil .nil)) (.node (boot_o_6 P) (.node (boot_o_10 P) .nil .nil) (.node u3 .nil .nil)))
noncomputable def S0 (w : World) (os : OsState) : SharedT := { tree := tr0 w.params, n := 15, life := { }, gens := { toList := [] }, drawn := { }, toks := 187, os := os }
noncomputable def Sboot (w : World) (os : OsState) : Shared := { heap := boot_heap w.params, gens := { toList := [] }, drawn := boot_drawn, toks := boot_toks, os := os }
theorem preL : ∀ (w : World) (os : OsState), topGo treeTable PySem.Challenge.pw_rg0009_01 w 11 (some (.ref 6)) 12 (Sboot w os) (topStub PySem.Challenge.pw_rg0009_01) =
    some ((S0 w os).abs, { cur := denote treeTable code0, code := code0, pos := pos0, stack := [topFrame pos0] }) := by
  intro w os; kernel_rfl
theorem blockL : ∀ (w : World) (os : OsState), segRun treeTable PySem.Challenge.pw_rg0009_01 w 11 (some (.ref 6)) 1 1 (S0 w os).abs (blockOf (behindTheImports PySem.Challenge.pw_rg0009_01) env0 code0 pos0 [topFrame pos0]) = some (.next, (S0 w os).abs, code0, pos0) := by
  intro w os; kernel_rfl
/-- what is asked of the top's end -/
noncomputable def Xt0 (s : Shared) : Bool := xlAt q0 [] s && recOk PySem.Challenge.rw_rg0009_01.row.records s
noncomputable def look (w : World) (s : Shared) := (staticsOk (importedModules PySem.Challenge.pw_rg0009_01.main.body) (boot_heap w.params) s.heap && namesBound PySem.Challenge.pw_rg0009_01 s.heap && gensDone s && laidKept (boot_heap w.params) s.heap,
  openSeen q0 [Str.ofString "Limits"] (importedModules PySem.Challenge.pw_rg0009_01.main.body) Xt0 true s, addrs.map s.heap.get?)
noncomputable def fin0 (w : World) (r : Flow × SharedT × Code × Pos) := (topRun treeTable PySem.Challenge.pw_rg0009_01 w 11 (some (.ref 6)) 2 r.2.1.abs { cur := doneF .next, code := code0, pos := r.2.2.2, stack := [topFrame pos0] }).map (look w)
noncomputable def lft (w : World) (os : OsState) := (segRunT treeTable PySem.Challenge.pw_rg0009_01 w 11 (some (.ref 6)) 1 2800 (S0 w os) (piecesOf (behindTheImports PySem.Challenge.pw_rg0009_01) env0 code0 pos0 [topFrame pos0])).map fun r => (r.1, r.2.2.1, fin0 w r)
theorem lft_r : lft = lft := rfl
name_quick lftF for lft by lft_r
noncomputable def gd := openGood q0 [Str.ofString "Limits"]
theorem gd_r : gd = gd := rfl
name_quick gdF for gd by gd_r
theorem whole : ∀ (w : World) (os : OsState), PySem.W.Fast.lftF w os = some (.next, code0, some (true, PySem.W.Fast.gdF, (K w.params).map fun p => some p.2)) := by
  intro w os; kernel_rfl
end Mine
end
section
open PySem PySem.W PyProof.Rows
namespace Mine
theorem he0 : ∀ P, addrs = (K P).map (·.1) := fun P => by kernel_rfl
theorem run0 (w : World) (os : OsState) : ∃ s₁, topRun treeTable PySem.Challenge.pw_rg0009_01 w 11 (some (.ref 6)) (12 + (1 + (2800 + 2))) (Sboot w os) (topStub PySem.Challenge.pw_rg0009_01) = some s₁ ∧ look w s₁ = (true, gd, (K w.params).map fun p => some p.2) := by
  have e : lft w os = some (.next, code0, some (true, gd, (K w.params).map fun p => some p.2)) := by
    have h := whole w os
    rw [← PySem.W.Fast.lftF_eq, ← PySem.W.Fast.gdF_eq] at h
    exact h
  unfold lft at e
  obtain ⟨⟨f, S', c, p'⟩, hr, e'⟩ := Option.map_eq_some_iff.mp e
  obtain ⟨rfl, e2⟩ := Prod.mk.inj e'
  obtain ⟨rfl, e3⟩ := Prod.mk.inj e2
  unfold fin0 at e3
  obtain ⟨s₁, hf, hl⟩ := Option.map_eq_some_iff.mp e3
  refine ⟨s₁, ?_, hl⟩
  refine go_top (preL w os) ?_
  refine piece_block (blockL w os) ?_
  have k := piece_app (rest := []) (segRun_of hr) (piece_nil hf)
  rw [List.append_nil] at k
  exact k
theorem topFrom_of {p : Program} {w : World} {N n : Nat} {ann : Option Value} {s₀ s₁ : Shared} (z1 : (s₀.heap.isNs mainGlobals && s₀.gens.size == 0) = true) (z2 : s₀.heap.objs.size = n) (z3 : s₀.heap.nsMap mainGlobals "__annotations__" = ann)
    (r : topRun treeTable p w n ann N s₀ (topStub p) = some s₁) (l : (staticsOk (importedModules p.main.body) s₀.heap s₁.heap && namesBound p s₁.heap && gensDone s₁ && laidKept s₀.heap s₁.heap) = true) : topFrom treeTable p w N s₀ = some s₁ := by
  subst z2 z3
  unfold topFrom
  rw [z1]
  dsimp only
  rw [r]
  dsimp only [Option.bind]
  rw [l]
theorem ends_of {p q : Program} {loose : List Str} {Xt : Shared → Bool} {α : Type} {Yf : Shared → α} {y : α} {N : Nat} {w : World} {s₀ s₁ : Shared} (e : fencedOpening treeTable p w N = some s₀) (t : topFrom treeTable p w N s₀ = some s₁)
    (l2 : openSeen q loose (importedModules p.main.body) Xt true s₁ = openGood q loose) (l3 : Yf s₁ = y) : (openEnds treeTable p w N).map (fun s => (openSeen q loose (importedModules p.main.body) Xt true s, Yf s)) = some (openGood q loose, y) := by
  unfold openEnds
  rw [e]
  dsimp only [Option.bind]
  rw [t]
  exact congrArg some (Prod.ext l2 l3)
theorem run1 (w : World) (os : OsState) : ∃ s₁, topRun treeTable PySem.Challenge.pw_rg0009_01 w 11 (some (.ref 6)) 5618 (Sboot w os) (topStub PySem.Challenge.pw_rg0009_01) = some s₁ ∧ look w s₁ = (true, gd, (K w.params).map fun p => some p.2) := by
  obtain ⟨s₁, hr, hl⟩ := run0 w os
  have r := topRun_mono (5618 - 2815) _ _ _ _ hr
  rw [show 12 + (1 + (2800 + 2)) + (5618 - 2815) = 5618 by omega] at r
  exact ⟨s₁, r, hl⟩
theorem look_1 {w : World} {s : Shared} {x : _} (h : look w s = x) : (staticsOk (importedModules PySem.Challenge.pw_rg0009_01.main.body) (boot_heap w.params) s.heap && namesBound PySem.Challenge.pw_rg0009_01 s.heap && gensDone s && laidKept (boot_heap w.params) s.heap) = x.1 := congrArg Prod.fst h
theorem look_2 {w : World} {s : Shared} {x : _} (h : look w s = x) : openSeen q0 [Str.ofString "Limits"] (importedModules PySem.Challenge.pw_rg0009_01.main.body) Xt0 true s = x.2.1 := congrArg (fun z => z.2.1) h
theorem look_3 {w : World} {s : Shared} {x : _} (h : look w s = x) : addrs.map s.heap.get? = x.2.2 := congrArg (fun z => z.2.2) h
theorem szB (w : World) : ((boot_heap w.params).isNs mainGlobals && (Array.mk [] : Array GenState).size == 0) = true := by kernel_rfl
theorem szC (w : World) : (boot_heap w.params).objs.size = 11 := by kernel_rfl
theorem szD (w : World) : (boot_heap w.params).nsMap mainGlobals "__annotations__" = some (.ref 6) := by kernel_rfl
theorem obs0 (s : Shared) : Hook.obs (kHook K addrs he0) s = addrs.map s.heap.get? := rfl
theorem val0 (w : World) : Hook.val (kHook K addrs he0) w = (K w.params).map fun p => some p.2 := rfl
theorem boot0 (w : World) : ∃ os, fencedOpening treeTable PySem.Challenge.pw_rg0009_01 w 5618 = some (Sboot w os) := by
  have op := boot_open (p := PySem.Challenge.pw_rg0009_01) (N := 5618) (by rfl) (by rfl) (fun s => by rfl) w
  obtain ⟨⟨h, gs, d, k, os⟩, e, e'⟩ := Option.map_eq_some_iff.mp op
  obtain ⟨rfl, rfl, rfl, rfl⟩ : h = boot_heap w.params ∧ gs = Array.mk [] ∧ d = boot_drawn ∧ k = boot_toks := by simpa using e'
  exact ⟨os, e⟩
theorem left0 : LeftO PySem.Challenge.pw_rg0009_01 q0 [Str.ofString "Limits"] Xt0 (Hook.obs (kHook K addrs he0)) (Hook.val (kHook K addrs he0)) 5618 := fun w => by
  obtain ⟨os, e⟩ := boot0 w
  obtain ⟨s₁, hr, hl⟩ := run1 w os
  exact ends_of e (topFrom_of (s₀ := Sboot w os) (szB w) (szC w) (szD w) hr (look_1 hl)) (look_2 hl) ((obs0 s₁).trans ((look_3 hl).trans (val0 w).symm))
end Mine
end
section
open PySem PySem.W PyProof.Rows
namespace Mine

/-- a dict of attributes, read as a function of the names; at most k of them -/
def Attrs (k : Nat) (od : Obj) (m : Str → Option Value) : Prop :=
  ∃ es n, od = PySem.W.dictOf es n ∧ es.length ≤ k ∧ es.any (·.refKey) = false ∧ ∀ x v, m x = some v → (es.find? (·.key.isStr x)).map (·.val) = some v

theorem Attrs.nil : Attrs 0 (PySem.W.dictOf [] 0) (fun _ => none) := ⟨[], 0, rfl, Nat.le_refl _, rfl, fun _ _ h => nomatch h⟩
theorem Attrs.sub {k : Nat} {od : Obj} {m m' : Str → Option Value} (h : Attrs k od m) (hs : ∀ x v, m' x = some v → m x = some v) : Attrs k od m' :=
  let ⟨es, n, a, b, c, d⟩ := h; ⟨es, n, a, b, c, fun x v e => d x v (hs x v e)⟩
theorem Attrs.pick {k : Nat} {od : Obj} {m : Str → Option Value} (h : Attrs k od m) {l : List (Str × Value)} (hl : ∀ p ∈ l, m p.1 = some p.2) : Attrs k od fun y => l.lookup y := h.sub fun x v e => by
  induction l with
  | nil => cases e
  | cons p r ih =>
    rw [List.lookup_cons] at e
    cases q : x == p.1 with
    | true => rw [q] at e; rw [eq_of_beq q, hl p (.head _)]; exact e
    | false => rw [q] at e; exact ih (fun p' hp => hl p' (.tail _ hp)) e
theorem Attrs.anon {k : Nat} {od : Obj} {m : Str → Option Value} (h : Attrs k od m) : Attrs k od fun _ => none := h.sub fun _ _ e => nomatch e
theorem Attrs.le {k k' : Nat} {od : Obj} {m : Str → Option Value} (h : Attrs k od m) (hk : k ≤ k') : Attrs k' od m :=
  let ⟨es, n, a, b, c⟩ := h; ⟨es, n, a, Nat.le_trans b hk, c⟩
theorem Attrs.look {k : Nat} {od : Obj} {m : Str → Option Value} (h : Attrs k od m) {x : Str} {v : Value} (e : m x = some v) : lookIn x od = some (some v) := by
  obtain ⟨es, n, rfl, _, hr, hm⟩ := h
  rw [lookIn_dict]
  unfold getL
  have := hm x v e
  cases q : es.find? (·.key.isStr x) with
  | some e => rw [q] at this; exact congrArg some this
  | none => rw [q] at this; cases this
theorem Attrs.looks {k : Nat} {od : Obj} {m : Str → Option Value} (h : Attrs k od m) (x : Str) : (lookIn x od).isSome = true := by
  obtain ⟨es, n, rfl, _, hr, hm⟩ := h
  rw [lookIn_dict]
  unfold getL
  cases q : es.find? (·.key.isStr x) with
  | some e => rfl
  | none => show (if es.any (·.refKey) then none else some none : Option (Option Value)).isSome = true; rw [hr]; rfl

theorem isStr_str {x y : Str} {t : Tok} : (Value.str x t).isStr y = decide (y = x) := by
  show (x == y) = _
  by_cases h : y = x
  · subst h; simp
  · rw [decide_eq_false h]
    exact beq_eq_false_iff_ne.mpr fun e => h e.symm

theorem isStr_two {v : Value} {a b : Str} (ha : v.isStr a = true) : v.isStr b = decide (b = a) := by
  cases v <;> try (cases ha; done)
  rename_i x t
  rw [isStr_str] at ha ⊢
  obtain rfl : a = x := of_decide_eq_true ha
  rfl

theorem putL_keys {name : Str} {hs : Int} {t : Tok} {v : Value} : ∀ {es : List DictEntry}, es.any (·.refKey) = false → (putL name hs (.str name t) v es).any (·.refKey) = false
  | [], _ => rfl
  | e :: r, h => by
    rw [List.any_cons, Bool.or_eq_false_iff] at h
    unfold putL
    split
    · rw [List.any_cons, Bool.or_eq_false_iff]; exact ⟨h.1, h.2⟩
    · rw [List.any_cons, Bool.or_eq_false_iff]; exact ⟨h.1, putL_keys h.2⟩
theorem putL_look {name : Str} {hs : Int} {t : Tok} {v : Value} (x : Str) : ∀ {es : List DictEntry},
    ((putL name hs (.str name t) v es).find? (·.key.isStr x)).map (·.val) = if x = name then some v else (es.find? (·.key.isStr x)).map (·.val)
  | [] => by
    show (List.find? (fun e : DictEntry => e.key.isStr x) [DictEntry.mk hs (.str name t) v]).map _ = _
    rw [List.find?_cons]
    show (match (Value.str name t).isStr x with | true => _ | false => _ : Option DictEntry).map _ = _
    rw [isStr_str]
    by_cases h : x = name
    · rw [if_pos h, decide_eq_true h]; try rfl
    · rw [if_neg h, decide_eq_false h]; try rfl
  | e :: r => by
    have ih := putL_look (name := name) (hs := hs) (t := t) (v := v) x (es := r)
    unfold putL
    cases q : e.key.isStr name with
    | true =>
      rw [if_pos rfl, List.find?_cons, List.find?_cons]
      show (match e.key.isStr x with | true => _ | false => _ : Option DictEntry).map _ = _
      rw [isStr_two q]
      by_cases h : x = name
      · rw [if_pos h, decide_eq_true h]; rfl
      · rw [if_neg h, decide_eq_false h]
    | false =>
      rw [if_neg (by simp), List.find?_cons, List.find?_cons]
      cases z : e.key.isStr x with
      | true =>
        have : ¬ x = name := fun e' => by rw [e'] at z; rw [z] at q; cases q
        rw [if_neg this]
      | false => exact ih
theorem putL_len {name : Str} {hs : Int} {t : Tok} {v : Value} : ∀ {es : List DictEntry}, (putL name hs (.str name t) v es).length ≤ es.length + 1 ∧
    ((es.find? (·.key.isStr name)).isSome = true → (putL name hs (.str name t) v es).length = es.length)
  | [] => ⟨Nat.le_refl _, fun h => by cases h⟩
  | e :: r => by
    have ih := putL_len (name := name) (hs := hs) (t := t) (v := v) (es := r)
    unfold putL
    cases q : e.key.isStr name with
    | true => rw [if_pos rfl]; exact ⟨Nat.le_succ _, fun _ => rfl⟩
    | false =>
      rw [if_neg (by simp), List.find?_cons, q]
      exact ⟨Nat.succ_le_succ ih.1, fun h => congrArg Nat.succ (ih.2 h)⟩

theorem Attrs.put {k : Nat} {od : Obj} {m : Str → Option Value} (h : Attrs k od m) (name : Str) (hs : Int) (t : Tok) (v : Value) :
    ∃ es n, Obj.putName name hs (.str name t) v od = PySem.W.dictOf es n ∧ es.length ≤ k + 1 ∧ Attrs (k + 1) (PySem.W.dictOf es n) (fun x => if x = name then some v else m x) ∧
      ((m name).isSome = true → Attrs k (PySem.W.dictOf es n) (fun x => if x = name then some v else m x)) := by
  obtain ⟨es, n, rfl, hl, hr, hm⟩ := h
  have look : ∀ x u, (if x = name then some v else m x) = some u → ((putL name hs (.str name t) v es).find? (·.key.isStr x)).map (·.val) = some u := fun x u e => by
    rw [putL_look]
    by_cases h : x = name
    · rw [if_pos h] at e ⊢; exact e
    · rw [if_neg h] at e ⊢; exact hm x u e
  refine ⟨putL name hs (.str name t) v es, putN name es n, putName_dict .., Nat.le_trans putL_len.1 (Nat.succ_le_succ hl), ⟨_, _, rfl, Nat.le_trans putL_len.1 (Nat.succ_le_succ hl), putL_keys hr, look⟩, fun hs' => ⟨_, _, rfl, ?_, putL_keys hr, look⟩⟩
  rw [putL_len.2]
  · exact hl
  · obtain ⟨u, hu⟩ := Option.isSome_iff_exists.mp hs'
    have := hm name u hu
    cases q : es.find? (·.key.isStr name) with
    | some _ => rfl
    | none => rw [q] at this; cases this

/-- the ledger's addresses are apart -/
theorem nd_cons {d : Addr} {news : List (Addr × Obj)} (h : ∀ p ∈ news, p.1 < d) (n : (news.map Prod.fst).Nodup) : (d :: news.map Prod.fst).Nodup :=
  List.nodup_cons.mpr ⟨fun hm => by obtain ⟨p, hp, e⟩ := List.mem_map.mp hm; exact Nat.lt_irrefl d (e ▸ h p hp), n⟩
theorem nd_cons2 {d x : Addr} {news : List (Addr × Obj)} (h : ∀ p ∈ news, p.1 < d) (hx : d < x) (n : (news.map Prod.fst).Nodup) : (x :: d :: news.map Prod.fst).Nodup :=
  List.nodup_cons.mpr ⟨fun hm => by
    rcases List.mem_cons.mp hm with e | hm
    · exact Nat.lt_irrefl d (e ▸ hx)
    · obtain ⟨p, hp, e⟩ := List.mem_map.mp hm
      exact Nat.lt_irrefl x (Nat.lt_trans (e ▸ h p hp) hx), nd_cons h n⟩
theorem News.sub {h₀ h : Heap} {L : Addr} {news news' : List (Addr × Obj)} (N : News h₀ L h news) (hs : ∀ p ∈ news', p ∈ news) : News h₀ L h news' := fun p hp => N p (hs p hp)
theorem nd_ne {d : Addr} {o : Obj} {r : List (Addr × Obj)} (h : (((d, o) :: r).map Prod.fst).Nodup) : ∀ p ∈ r, p.1 ≠ d := fun p hp e =>
  (List.nodup_cons.mp h).1 (List.mem_map.mpr ⟨p, hp, e⟩)
theorem nd_ne' {d : Addr} {o : Obj} {p : Addr × Obj} {r : List (Addr × Obj)} (h : ((p :: r).map Prod.fst).Nodup) (hm : (d, o) ∈ r) : p.1 ≠ d := fun e =>
  (List.nodup_cons.mp h).1 (List.mem_map.mpr ⟨(d, o), hm, e.symm⟩)
theorem updF_head {d : Addr} {o : Obj} {r : List (Addr × Obj)} (h : (((d, o) :: r).map Prod.fst).Nodup) : UpdF d o ((d, o) :: r) fun o' => (d, o') :: r := .head (nd_ne h)
theorem updF_tail {d : Addr} {o : Obj} {p : Addr × Obj} {r : List (Addr × Obj)} {g : Obj → List (Addr × Obj)} (h : ((p :: r).map Prod.fst).Nodup) (u : (r.map Prod.fst).Nodup → UpdF d o r g) : UpdF d o (p :: r) fun o' => p :: g o' := by
  have u' := u (List.nodup_cons.mp h).2
  refine .tail (nd_ne' (o := o) h ?_) u'
  obtain ⟨pre, post, rfl, _⟩ := u'.split
  exact List.mem_append_right _ (.head _)
theorem upd_head {d : Addr} {o o' : Obj} {r : List (Addr × Obj)} (h : (((d, o) :: r).map Prod.fst).Nodup) : Upd d o o' ((d, o) :: r) ((d, o') :: r) := .head (nd_ne h)
theorem upd_tail {d : Addr} {o o' : Obj} {p : Addr × Obj} {r r' : List (Addr × Obj)} (h : ((p :: r).map Prod.fst).Nodup) (u : (r.map Prod.fst).Nodup → Upd d o o' r r') : Upd d o o' (p :: r) (p :: r') := by
  have u' := u (List.nodup_cons.mp h).2
  refine .tail (nd_ne' (o := o) h ?_) u'
  obtain ⟨pre, post, rfl, _⟩ := u'.split
  exact List.mem_append_right _ (.head _)

section
variable {prog : Program} {w : World} {A : Around} {E : Value → Shared → Prop} {s : Shared} {K : Frag} {x C dx L : Addr} {h₀ : Heap} {m : Str → Option Value} {news : List (Addr × Obj)} {od : Obj} {k : Nat} {mm : Str → Option Value} {name : Str} {v : Value}

theorem at_get {expr : Bool} {Q : Value → Shared → Prop} {attr : Option Value} (F : Fr h₀ L s.heap m) (X₀ : K.In h₀) (N : News h₀ L s.heap news) (hx : (x, instObj C dx) ∈ news) (hdx : (dx, od) ∈ news) (hA : Attrs k od mm) (hm : mm name = some v)
    (hg : plainGet K C name = true) (hh : hasDictIn K C = true) (ha : findIn K (.ref C) name = some attr) (hn : noGet K attr = true) (hv : handedIn v = true) (h : Q v { s with toks := s.toks + 1 }) :
    wpAny (model prog w) A (getAttr (.ref x) name expr) Q E s :=
  get_value (X₀.keeps F.keep) (⟨(N _ hx).1, rfl, rfl, (N _ hdx).1⟩ : InstAt s.heap x (instObj C dx) C (some od)) (plainGet_of hg).1 (findObj_own hh ha hn (hA.look hm)) hv h

theorem at_setG {g : Obj → List (Addr × Obj)} {Q : Unit → Shared → Prop} (F : Fr h₀ L s.heap m) (X₀ : K.In h₀) (N : News h₀ L s.heap news) (hx : (x, instObj C dx) ∈ news) (U : UpdF dx od news g) (hA : Attrs k od mm)
    (hs : findIn K (.ref C) "__setattr__" = some (some (.builtin "object.__setattr__"))) (hp : plainOver K C = true) (ht : takerIn K C name = some none) (hh : hasDictIn K C = true) (hk : k ≤ 900)
    (h : ∀ h' od', Fr h₀ L h' m → News h₀ L h' (g od') → Attrs (k + 1) od' (fun y => if y = name then some v else mm y) → ((mm name).isSome = true → Attrs k od' (fun y => if y = name then some v else mm y)) → Q () { s with heap := h', toks := s.toks + 2 }) :
    wpAny (model prog w) A (setAttr (.ref x) name v) Q E s := by
  obtain ⟨pre, post, rfl, hg, a, b⟩ := U.split
  have I : InstAt s.heap x (instObj C dx) C (some od) := ⟨(N _ hx).1, rfl, rfl, (N (dx, od) (List.mem_append_right _ (.head _))).1⟩
  obtain ⟨es, n, e, hl, h1, h2⟩ := hA.put name (PyData.keyHash w.params name) (s.toks + 1) v
  refine set_plain (X₀.keeps F.keep) I hs (osa_dict (s := { s with toks := s.toks + 1 }) F N (X₀.keeps F.keep) I rfl hp ht hh (hA.looks _) a b e rfl (by omega) fun h' F' N' => ?_)
  exact h h' _ F' (by rw [hg]; exact N') h1 h2
/-- a new attribute -/
theorem at_set {g : Obj → List (Addr × Obj)} {Q : Unit → Shared → Prop} (F : Fr h₀ L s.heap m) (X₀ : K.In h₀) (N : News h₀ L s.heap news) (hx : (x, instObj C dx) ∈ news) (U : UpdF dx od news g) (hA : Attrs k od mm)
    (hs : findIn K (.ref C) "__setattr__" = some (some (.builtin "object.__setattr__"))) (hp : plainOver K C = true) (ht : takerIn K C name = some none) (hh : hasDictIn K C = true) (hk : k ≤ 900)
    (h : ∀ h' od', Fr h₀ L h' m → News h₀ L h' (g od') → Attrs (k + 1) od' (fun y => if y = name then some v else mm y) → Q () { s with heap := h', toks := s.toks + 2 }) :
    wpAny (model prog w) A (setAttr (.ref x) name v) Q E s := at_setG F X₀ N hx U hA hs hp ht hh hk fun h' od' F' N' a _ => h h' od' F' N' a
/-- an attribute that stands -/
theorem at_again {g : Obj → List (Addr × Obj)} {Q : Unit → Shared → Prop} {v₀ : Value} (F : Fr h₀ L s.heap m) (X₀ : K.In h₀) (N : News h₀ L s.heap news) (hx : (x, instObj C dx) ∈ news) (U : UpdF dx od news g) (hA : Attrs k od mm) (h0 : mm name = some v₀)
    (hs : findIn K (.ref C) "__setattr__" = some (some (.builtin "object.__setattr__"))) (hp : plainOver K C = true) (ht : takerIn K C name = some none) (hh : hasDictIn K C = true) (hk : k ≤ 900)
    (h : ∀ h' od', Fr h₀ L h' m → News h₀ L h' (g od') → Attrs k od' (fun y => if y = name then some v else mm y) → Q () { s with heap := h', toks := s.toks + 2 }) :
    wpAny (model prog w) A (setAttr (.ref x) name v) Q E s := at_setG F X₀ N hx U hA hs hp ht hh hk fun h' od' F' N' _ b => h h' od' F' N' (b (by rw [h0]; rfl))

/-- an instance of a class of the text's own -/
theorem mk_inst {pos : List Value} {kw : List (Str × Value)} {fI : Addr} {Q : Value → Shared → Prop} (F : Fr h₀ L s.heap m) (X₀ : K.In h₀) (N : News h₀ L s.heap news) (hm : makesIn K C = true) (hi : findIn K (.ref C) "__init__" = some (some (.ref fI))) (hf : isFn K (.ref fI) = true)
    (h : ∀ x dx od h', Fr h₀ L h' m → News h₀ L h' ((x, instObj C dx) :: (dx, od) :: news) → Attrs 0 od (fun _ => none) → (∀ p ∈ news, p.1 < dx) → dx < x →
      codeAny (model prog w) (A.under (.builtin "type.__call__" ⟨.ref C :: pos, kw⟩)) (.call (.ref fI) ⟨.ref x :: pos, kw⟩) (InitBack x fun r s' => match r with | .ok (.ret v) => Q v s' | .ok _ => False | .error e => E e s') { s with heap := h' }) :
    wpAny (model prog w) A (call (.ref C) pos kw) Q E s := call_cls F X₀ N hm hi hf fun x dx h' F' N' => h x dx _ h' F' N' Attrs.nil
end
end Mine
end
section
open PySem PySem.W PyProof.Rows PySem.SeqAt
namespace Mine
theorem UpdF.mem {d : Addr} {o : Obj} {news : List (Addr × Obj)} {g : Obj → List (Addr × Obj)} (U : UpdF d o news g) : (d, o) ∈ news := by
  obtain ⟨pre, post, rfl, _⟩ := U.split
  exact List.mem_append_right _ (.head _)
theorem UpdF.again {d : Addr} {o : Obj} : ∀ {news : List (Addr × Obj)} {g : Obj → List (Addr × Obj)}, UpdF d o news g → ∀ o', UpdF d o' (g o') g
  | _, _, .head h, _ => .head h
  | _, _, .tail h u, o' => .tail h (UpdF.again u o')
/-- the ladder: a list of n ints, whose first is k -/
def Lad (o : Obj) (k : Int) (n : Nat) : Prop := ∃ ws ns c, o = PySem.W.listOf (List.toArray ws) c ∧ IntsAre ws (k :: ns) ∧ ns.length + 1 = n
section
variable {prog : Program} {w : World} {A : Around} {E : Value → Shared → Prop} {s : Shared} {L ld : Addr} {h₀ : Heap} {m : Str → Option Value} {news : List (Addr × Obj)} {g : Obj → List (Addr × Obj)} {ol : Obj} {k : Int} {n : Nat}
theorem lad_get {value slice : PySem.Expr} {u : Tok} {Q : Value → Shared → Prop} (N : News h₀ L s.heap news) (U : UpdF ld ol news g) (hl : Lad ol k n) (h : ∀ t, Q (.int k t) s)
    (hs : subscripted slice false (.ref ld) (.int 0 u) = operate [.ref ld, .int 0 u] (getItem (.ref ld) (.int 0 u)) := by with_unfolding_all rfl) :
    wpAny (model prog w) A (subscriptTail value slice (.ref ld) (.int 0 u)) Q E s := by
  obtain ⟨ws, ns, c, rfl, hi, hn⟩ := hl
  exact item_anyK (News.isList (d := none) (sl := #[]) N (UpdF.mem U)) hi (Int.le_refl _) (by simp only [List.length_cons]; omega) (by decide) (fun t => h t) hs
theorem lad_at {value slice : PySem.Expr} {u : Tok} {j : Int} {Q : Value → Shared → Prop} (N : News h₀ L s.heap news) (U : UpdF ld ol news g) (hl : Lad ol k n) (h0 : 0 ≤ j) (h1 : j < n) (hf : j < 2 ^ 63) (h : ∀ x t, Q (.int x t) s)
    (hs : subscripted slice false (.ref ld) (.int j u) = operate [.ref ld, .int j u] (getItem (.ref ld) (.int j u)) := by with_unfolding_all rfl) :
    wpAny (model prog w) A (subscriptTail value slice (.ref ld) (.int j u)) Q E s := by
  obtain ⟨ws, ns, c, rfl, hi, hn⟩ := hl
  exact item_anyK (News.isList (d := none) (sl := #[]) N (UpdF.mem U)) hi h0 (by simp only [List.length_cons]; omega) hf (fun t => h _ t) hs
theorem lad_len {Q : Value → Shared → Prop} (N : News h₀ L s.heap news) (U : UpdF ld ol news g) (hl : Lad ol k n) (hn : n < 2 ^ 62) (h : Q (.int (n : Nat) (s.toks + 1)) { s with toks := s.toks + 1 + 1 }) :
    wpAny (model prog w) A (call (.builtin "len") [.ref ld]) Q E s := by
  obtain ⟨ws, ns, c, rfl, hi, hn'⟩ := hl
  refine KM.len_K N (UpdF.mem U) ?_ hn h
  rw [List.size_toArray, hi.length, List.length_cons, hn']
theorem lad_set {x : Int} {t u : Tok} {Q : Unit → Shared → Prop} (F : Fr h₀ L s.heap m) (N : News h₀ L s.heap news) (U : UpdF ld ol news g) (hl : Lad ol k n)
    (h : ∀ h' ol', Fr h₀ L h' m → News h₀ L h' (g ol') → Lad ol' x n → UpdF ld ol' (g ol') g → Q () { s with heap := h' }) : wpAny (model prog w) A (setItem (.ref ld) (.int 0 t) (.int x u)) Q E s := by
  obtain ⟨ws, ns, c, rfl, hi, hn⟩ := hl
  obtain ⟨pre, post, rfl, hg, a, b⟩ := U.split
  have z := N (ld, listOf ws.toArray c) (List.mem_append.mpr (.inr (.head _)))
  have hl' : ws.length = ns.length + 1 := by rw [hi.length, List.length_cons]
  have N' := ki_turn (L := L) (h₀ := h₀) (its' := (ws.set 0 (.int x u)).toArray) (n' := c) (fun xs => xs.setIfInBounds (0 : Int).toNat (.int x u)) N a b (by apply Array.toList_inj.mp; simp) (by simp)
  refine ki_setAt z.1 (Int.le_refl _) (by decide) (by rw [List.size_toArray]; omega) (h _ _ (F.change (Heap.SameBut.update ..) z.2.1 z.2.2) (by rw [hg]; exact N') ⟨_, ns, _, rfl, ?_, hn⟩ (UpdF.again U _))
  cases hi with
  | cons i t h => exact .cons x u h
end
/-- is it this text -/
def strEq (x : Str) : Value → Bool
  | .str y _ => y == x
  | _ => false
def allStrs (items : Array Value) : Bool := items.toList.all fun v => match v with | .str _ _ => true | _ => false
section
variable {prog : Program} {w : World} {A : Around} {E : Value → Shared → Prop} {s : Shared} {K : Frag} {L l : Addr} {h₀ : Heap} {m : Str → Option Value} {items : Array Value} {x : Str} {t : Tok} {n : Nat} {dd : Option Addr} {sl : Array (Option Value)} {b : Bool}
theorem strs_at (hs : allStrs items = true) : ∀ y, y ∈ items → EqAt A.in1 s y (.str x t) (strEq x y) := fun y hy => by
  have := List.all_eq_true.mp hs y (Array.mem_toList_iff.mpr hy)
  cases y <;> try (cases this; done)
  exact EqAt.str_str _ _ _ _
theorem tup_in {Q : Value → Shared → Prop} (F : Fr h₀ L s.heap m) (X₀ : K.In h₀) (hl : K.lookup l = some ⟨.type "tuple", dd, .seq items n, sl⟩) (hs : allStrs items = true) (hb : items.toList.any (strEq x) = b) (h : Q (.bool b) s) :
    wpAny (model prog w) A (compareOp .In (.str x t) (.ref l)) Q E s :=
  in_tupleAt (strEq x) ⟨_, (X₀.keeps F.keep) _ _ hl, rfl, n, rfl⟩ (strs_at hs) (by rw [← Array.any_toList, hb]; exact h)
theorem tup_notIn {Q : Value → Shared → Prop} (F : Fr h₀ L s.heap m) (X₀ : K.In h₀) (hl : K.lookup l = some ⟨.type "tuple", dd, .seq items n, sl⟩) (hs : allStrs items = true) (hb : items.toList.any (strEq x) = b) (h : Q (.bool (!b)) s) :
    wpAny (model prog w) A (compareOp .NotIn (.str x t) (.ref l)) Q E s :=
  notIn_tupleAt (strEq x) ⟨_, (X₀.keeps F.keep) _ _ hl, rfl, n, rfl⟩ (strs_at hs) (by rw [← Array.any_toList, hb]; exact h)
end
end Mine
end
section
open PySem PySem.W PyProof.Rows
namespace Mine
/-- what an entity bears -/
def entL (kd : Str) (tk : Tok) (nm : Str) (tn : Tok) (sv : Value) (ln : Int) (tl : Tok) (reg full : Value) (compl impl : Bool) (home uq nb pa : Value) : List (Str × Value) :=
  [("kind", .str kd tk), ("name", .str nm tn), ("key", .none), ("subtype", sv), ("line", .int ln tl), ("region", reg), ("full", full), ("is_complete", .bool compl), ("is_implicit", .bool impl), ("is_overridden", .bool false), ("home", home), ("unique", uq), ("number", nb), ("part", pa)]
/-- what a region bears -/
def regL (kd : Str) (tk : Tok) (parent : Value) (rr : Addr) (made : Int) (tm : Tok) (num : Int) (tn : Tok) (lev : Int) (tl : Tok) (part : Str) (tpt : Tok) (rn ro rc rh : Addr) : List (Str × Value) :=
  [("kind", .str kd tk), ("parent", parent), ("root", .ref rr), ("made", .int made tm), ("number", .int num tn), ("level", .int lev tl), ("part", .str part tpt), ("names", .ref rn), ("order", .ref ro), ("counts", .ref rc), ("type_homes", .ref rh)]
abbrev at_ (l : List (Str × Value)) : Str → Option Value := fun y => l.lookup y
/-- a region stands: its instance, its dict -/
structure RegAt (news : List (Addr × Obj)) (r : Addr) (l : List (Str × Value)) : Prop where
  ex : ∃ dr odr, (r, instObj 113 dr) ∈ news ∧ (dr, odr) ∈ news ∧ Attrs 16 odr (at_ l)
/-- one step to a parent -/
inductive ChStep (news : List (Addr × Obj)) (rr : Addr) (Ch : Addr → Prop) (r : Addr) : Prop
  | mk (r' : Addr) (tk : Tok) (M : Int) (tM : Tok) (nu : Int) (tn : Tok) (lv : Int) (tl : Tok) (pt : Str) (tpt : Tok) (rn ro rc rh : Addr) (a : RegAt news r (regL "package" tk (.ref r') rr M tM nu tn lv tl pt tpt rn ro rc rh)) (b : Ch r') : ChStep news rr Ch r
def Chain (news : List (Addr × Obj)) (rr : Addr) : Nat → Addr → Prop
  | 0, r => r = rr
  | n + 1, r => ChStep news rr (Chain news rr n) r
theorem RegAt.sub {news news' : List (Addr × Obj)} {r : Addr} {l : List (Str × Value)} (h : RegAt news r l) (hs : ∀ p ∈ news, p ∈ news') : RegAt news' r l :=
  let ⟨dr, odr, a, b, c⟩ := h.ex; ⟨dr, odr, hs _ a, hs _ b, c⟩
theorem Chain.sub {news news' : List (Addr × Obj)} {rr : Addr} (hs : ∀ p ∈ news, p ∈ news') : ∀ {n : Nat} {r : Addr}, Chain news rr n r → Chain news' rr n r
  | 0, _, h => h
  | _ + 1, _, ⟨r', tk, M, tM, nu, tn, lv, tl, pt, tpt, rn, ro, rc, rh, a, b⟩ => ⟨r', tk, M, tM, nu, tn, lv, tl, pt, tpt, rn, ro, rc, rh, a.sub hs, Chain.sub hs b⟩
/-- a name without a dot, and short -/
structure Nice (nm : Str) : Prop where
  len : nm.length ≤ 10
  dot : (Builtin.Str.occurrences nm (Str.ofString ".") 0 nm.length 1).isEmpty = true
theorem dot_in {prog : Program} {w : World} {A : Around} {E : Value → Shared → Prop} {s : Shared} {x y : Str} {t u : Tok} {Q : Value → Shared → Prop} (hd : (Builtin.Str.occurrences x y 0 x.length 1).isEmpty = true) (h : Q (.bool false) s) :
    wpAny (model prog w) A (compareOp .In (.str y u) (.str x t)) Q E s := PySem.P.in_str (by rw [hd]; exact h)
theorem cnt_next {fc : Str → Option Value} {nm : Str} {c : Int} {b : Nat} {t : Tok} (h : ∀ x v, fc x = some v → ∃ c t, v = Value.int c t ∧ 0 ≤ c ∧ c ≤ b) (h0 : 0 ≤ c) (h1 : c ≤ b) :
    ∀ x v, (if x = nm then some (Value.int (c + 1) t) else fc x) = some v → ∃ c t, v = Value.int c t ∧ 0 ≤ c ∧ c ≤ ((b + 1 : Nat) : Int) := fun x v e => by
  by_cases hx : x = nm
  · rw [if_pos hx] at e
    exact ⟨c + 1, t, (Option.some.inj e).symm, by omega, by omega⟩
  · rw [if_neg hx] at e
    obtain ⟨c', t', e', a, b⟩ := h x v e
    exact ⟨c', t', e', a, by omega⟩
end Mine
end
section
open PySem PySem.W PyProof.Rows PySem.Calls
namespace Mine
section
variable {K : Type} [DecidableEq K]
theorem valueAt_cons (p : K × Value) (r : List (K × Value)) (x : K) : valueAt (p :: r) x = if p.1 = x then some p.2 else valueAt r x := by
  unfold valueAt
  rw [List.find?_cons]
  by_cases h : p.1 = x
  · rw [decide_eq_true h, if_pos h]; rfl
  · rw [decide_eq_false h, if_neg h]
theorem valueAt_map (k : K) (v : Value) (x : K) : ∀ kvs : List (K × Value), valueAt (kvs.map fun kv => if kv.1 = k then (kv.1, v) else kv) x = if x = k then (valueAt kvs x).map (fun _ => v) else valueAt kvs x
  | [] => by unfold valueAt; simp
  | p :: r => by
    rw [List.map_cons, valueAt_cons, valueAt_cons, valueAt_map k v x r]
    by_cases h : p.1 = k
    · rw [if_pos h]
      by_cases h2 : p.1 = x
      · rw [if_pos h2, if_pos h2, if_pos (h2 ▸ h)]; rfl
      · rw [if_neg h2, if_neg h2]
    · rw [if_neg h]
      by_cases h2 : p.1 = x
      · rw [if_pos h2, if_pos h2, if_neg (h2 ▸ h)]
      · rw [if_neg h2, if_neg h2]
theorem valueAt_app (k : K) (v : Value) (x : K) : ∀ kvs : List (K × Value), kvs.any (fun kv => kv.1 = k) = false → valueAt (kvs ++ [(k, v)]) x = if x = k then some v else valueAt kvs x
  | [], _ => by
    show valueAt [(k, v)] x = _
    rw [valueAt_cons]
    by_cases h : x = k
    · rw [if_pos h, if_pos h.symm]
    · rw [if_neg h, if_neg (Ne.symm h)]
  | p :: r, hn => by
    rw [List.any_cons, Bool.or_eq_false_iff] at hn
    rw [List.cons_append, valueAt_cons, valueAt_cons, valueAt_app k v x r hn.2]
    by_cases h2 : p.1 = x
    · have : ¬ x = k := fun e => of_decide_eq_false hn.1 (h2.trans e)
      rw [if_pos h2, if_pos h2, if_neg this]
    · rw [if_neg h2, if_neg h2]
theorem valueAt_any (k : K) : ∀ kvs : List (K × Value), kvs.any (fun kv => kv.1 = k) = true → ∃ v, valueAt kvs k = some v
  | [], h => by cases h
  | p :: r, h => by
    rw [valueAt_cons]
    by_cases e : p.1 = k
    · exact ⟨p.2, if_pos e⟩
    · rw [if_neg e]
      rw [List.any_cons, decide_eq_false e, Bool.false_or] at h
      exact valueAt_any k r h
theorem valueAt_stored (kvs : List (K × Value)) (k : K) (v : Value) (x : K) : valueAt (stored kvs k v) x = if x = k then some v else valueAt kvs x := by
  unfold stored
  by_cases h : kvs.any (fun kv => kv.1 = k) = true
  · rw [if_pos h, valueAt_map]
    by_cases e : x = k
    · rw [if_pos e, if_pos e]
      obtain ⟨u, hu⟩ := valueAt_any k kvs h
      rw [e, hu]; rfl
    · rw [if_neg e, if_neg e]
  · rw [if_neg h]; exact valueAt_app k v x kvs (Bool.eq_false_iff.mpr h)
end

/-- a dict, read as a function of its keys; at most n of them -/
def Dic {K : Type} [DecidableEq K] {prog : Program} {w : World} (knd : KeyKind prog w K) (o : Obj) (n : Nat) (f : K → Option Value) : Prop :=
  ∃ kvs, o.IsDictOf knd kvs ∧ kvs.length ≤ n ∧ ∀ k, valueAt kvs k = f k
section
variable {prog : Program} {w : World} {K : Type} [DecidableEq K] {knd : KeyKind prog w K} {A : Around} {E : Value → Shared → Prop} {s : Shared} {h₀ : Heap} {L d : Addr} {m : Str → Option Value} {news : List (Addr × Obj)} {g : Obj → List (Addr × Obj)} {o : Obj} {f : K → Option Value} {k : K} {key v dflt : Value} {n : Nat}
theorem Dic.new (h : o.IsDictOf knd []) : Dic knd o 0 fun _ => none := ⟨[], h, Nat.le_refl _, fun _ => rfl⟩
theorem Dic.le {n' : Nat} (h : Dic knd o n f) (hn : n ≤ n') : Dic knd o n' f := let ⟨a, b, c, e⟩ := h; ⟨a, b, Nat.le_trans c hn, e⟩
theorem dic_method {nm : Str} {id : String} {pl : Sem Bool} {Q : Value × List Value → Shared → Prop} (hs : Slot "dict" nm id) (ht : typeOf (.builtin id) = pure (.type "method_descriptor")) (N : News h₀ L s.heap news) (hp : (d, o) ∈ news) (hd : Dic knd o n f) (h : Q (.builtin id, [.ref d]) s) : wpAny (model prog w) A (getMethod (.ref d) nm pl) Q E s := by
  obtain ⟨kvs, h1, h2, h3⟩ := hd
  have hD := kda_dict N hp h1
  exact getMethod_builtin hD.typeIs PySem.F.plainAttrs_dict hs ht hD.mapOf.noDict h
theorem dic_get2 {Q : Value → Shared → Prop} (N : News h₀ L s.heap news) (hp : (d, o) ∈ news) (hd : Dic knd o n f) (lo : (d == sysModules) = false) (hkey : knd.is k key = true) (h : Q ((f k).getD dflt) { s with toks := s.toks + 1 }) :
    wpAny (model prog w) A (call (.builtin "dict.get") [.ref d, key, dflt]) Q E s := by
  obtain ⟨kvs, h1, h2, h3⟩ := hd
  exact kdg_get2 N hp h1 lo hkey _ (h3 k) h
theorem dic_get1 {Q : Value → Shared → Prop} (N : News h₀ L s.heap news) (hp : (d, o) ∈ news) (hd : Dic knd o n f) (lo : (d == sysModules) = false) (hkey : knd.is k key = true) (h : Q ((f k).getD .none) { s with toks := s.toks + 1 }) :
    wpAny (model prog w) A (call (.builtin "dict.get") [.ref d, key]) Q E s := by
  obtain ⟨kvs, h1, h2, h3⟩ := hd
  exact kdg_get1 N hp h1 lo hkey _ (h3 k) h
theorem dic_set {Q : Unit → Shared → Prop} (F : Fr h₀ L s.heap m) (N : News h₀ L s.heap news) (U : UpdF d o news g) (hd : Dic knd o n f) (hkey : knd.is k key = true) (hn : n ≤ 10000)
    (h : ∀ h' o', Fr h₀ L h' m → News h₀ L h' (g o') → Dic knd o' (n + 1) (fun x => if x = k then some v else f x) → Q () { s with heap := h', toks := s.toks + 1 }) : wpAny (model prog w) A (setItem (.ref d) key v) Q E s := by
  obtain ⟨kvs, h1, h2, h3⟩ := hd
  refine kda_set F N U h1 hkey (by rw [sizeLine_eq]; omega) fun h' o' F' N' hd' => h h' o' F' N' ⟨_, hd', ?_, fun x => ?_⟩
  · have := stored_length_le kvs k v; omega
  · rw [valueAt_stored, h3]
theorem dic_default {Q : Value → Shared → Prop} (F : Fr h₀ L s.heap m) (N : News h₀ L s.heap news) (U : UpdF d o news g) (hd : Dic knd o n f) (lo : (d == sysModules) = false) (hkey : knd.is k key = true) (hn : n ≤ 10000) (hf : f k = none)
    (h : ∀ h' o', Fr h₀ L h' m → News h₀ L h' (g o') → Dic knd o' (n + 1) (fun x => if x = k then some dflt else f x) → Q dflt { s with heap := h', toks := s.toks + 1 }) :
    wpAny (model prog w) A (call (.builtin "dict.setdefault") [.ref d, key, dflt]) Q E s := by
  obtain ⟨kvs, h1, h2, h3⟩ := hd
  have hD := kda_dict N (UpdF.mem U) h1
  obtain ⟨pre, post, rfl, hg, a, b⟩ := U.split
  have hm := N (d, o) (List.mem_append_right _ (.head _))
  refine call_meetsIn PySem.F.slot_dict_setdefault hD.typeIs PySem.F.entry_dict_setdefault (PySem.F.args_dict_setdefault_3 _ _ _) (kt_meets_setdefault knd d hkey lo dflt)
    ⟨kvs, hD, (by rw [sizeLine_eq]; omega), (fun v' hv' => by rw [h3, hf] at hv'; cases hv'), fun hn' h' hm' hs' => ?_⟩
  obtain ⟨o', ho', hd'⟩ := Heap.dictOf_iff.mp hm'
  refine h h' o' (F.change hs' hm.2.1 hm.2.2) (by rw [hg]; exact N.setIn a b hs' ho') ⟨_, hd', ?_, fun x => ?_⟩
  · have := stored_length_le kvs k dflt; omega
  · rw [valueAt_stored, h3]
end
end Mine
end
section
open PySem PySem.W PyProof.Rows PySem.Calls
namespace Mine
theorem nd_consN {d : Addr} {news : List (Addr × Obj)} (h : ∀ p ∈ news, p.1 ≠ d) (n : (news.map Prod.fst).Nodup) : (d :: news.map Prod.fst).Nodup :=
  List.nodup_cons.mpr ⟨fun hm => by obtain ⟨p, hp, e⟩ := List.mem_map.mp hm; exact h p hp e, n⟩
/-- what a comprehension over an empty list asks where its source has come -/
def Comp0 (h₀ : Heap) (L : Addr) (Q : Value → Shared → Prop) (xv : Value) (s : Shared) : Prop :=
  ∃ l c m news, xv = .ref l ∧ Fr h₀ L s.heap m ∧ News h₀ L s.heap news ∧ (l, PySem.W.listOf #[] c) ∈ news ∧
    ∀ D c' h' tk, Fr h₀ L h' m → News h₀ L h' ((D, PySem.W.listOf #[] c') :: news) → (∀ p ∈ news, p.1 ≠ D) → Q (.ref D) { s with heap := h', toks := tk }
theorem Comp0.intro {h₀ : Heap} {L : Addr} {Q : Value → Shared → Prop} {s : Shared} {l : Addr} {c : Nat} {m : Str → Option Value} {news : List (Addr × Obj)} (F : Fr h₀ L s.heap m) (N : News h₀ L s.heap news) (hl : (l, PySem.W.listOf #[] c) ∈ news)
    (h : ∀ D c' h' tk, Fr h₀ L h' m → News h₀ L h' ((D, PySem.W.listOf #[] c') :: news) → (∀ p ∈ news, p.1 ≠ D) → Q (.ref D) { s with heap := h', toks := tk }) : Comp0 h₀ L Q (.ref l) s :=
  ⟨l, c, m, news, rfl, F, N, hl, h⟩
section
variable {prog : Program} {w : World} {A : Around} {E : Value → Shared → Prop} {env : Env} {h₀ : Heap} {L : Addr}
theorem comp0 {s : Shared} {m₀ : Str → Option Value} {elt iter : Expr} {x : Str} {px : Pos} {ifs : List Expr} {scope : Scope} {cl : List (Str × Addr)} {pos : Pos} {Q : Value → Shared → Prop}
    (F₀ : Fr h₀ L s.heap m₀) (hh : A.handled = none) (hclos : closureFor scope env = pure cl) (hcell : ∀ y ∈ scope.names, y.2 ≠ .cell) (hkind : scope.kind = .function)
    (hnames : ∀ y ∈ scope.names, y.2 = .local → scope.names.lookup y.1 = some .local) (hx : scope.names.lookup x = some .local)
    (h : wpAny (model prog w) A (eval iter env) (Comp0 h₀ L Q) E s)
    (hs : ∀ x, foldedSetIterable iter env x = pure x) :
    wpAny (model prog w) A (eval (.ListComp elt [⟨.Name x px, iter, ifs, 0⟩] scope pos) env) Q E s := by
  refine wpAny_ListComp_free (fun _ => true) (fun _ _ => True) hclos hcell hkind hnames hx (wpAny_mono h (fun xv s₁ h₁ => ?_) fun _ _ e => e) hs
  obtain ⟨l, c, m, news, rfl, F, N, hm, k⟩ := h₁
  have hl : s₁.heap.IsList l #[] := News.isList (d := none) (sl := #[]) N hm
  have hlt := Heap.lt_size (N _ hm).1
  refine wpAny_pyIter_list hl ⟨_, [_, l], [_], 0, (fun i v => (#[] : Array Value)[i]? = some v), (fun i h => h.IsListIter s₁.heap.objs.size l i ∧ h.IsList l #[]), rfl, Walks.list hh _ l (Nat.ne_of_lt hlt) #[], Nat.zero_le _, ?_, ?_, ?_, ?_⟩
  · exact ⟨⟨_, Heap.get?_push_size _ rfl, rfl, rfl⟩, let ⟨o, ho, r⟩ := hl; ⟨o, Heap.get?_push_of_some _ ho, r⟩⟩
  · intro b hb
    show b < (s₁.heap.push _).objs.size
    rw [Heap.size_push]
    rcases List.mem_cons.mp hb with rfl | hb
    · exact Nat.lt_succ_self _
    · rw [List.mem_singleton.mp hb]; exact Nat.lt_succ_of_lt hlt
  · exact ⟨fun C i v s₃ m₃ E' _ hv => by simp at hv, fun C i v s₃ m₃ E' _ hv => by simp at hv⟩
  · intro D h' tk ys vs hD hlD hpl hlen _ hP hk
    obtain rfl : vs = [] := List.eq_nil_of_length_eq_zero hlen
    have hys : ys = #[] := by
      cases hy : ys.toList with
      | nil => exact Array.toList_inj.mp hy
      | cons a b => rw [hy] at hP; cases hP
    subst hys
    have keep : ∀ b o, s₁.heap.get? b = some o → h'.get? b = some o := fun b o e => hk b o (fun q => by rw [List.mem_singleton.mp q] at e; exact absurd (Heap.lt_size e) (Nat.lt_irrefl _)) (Heap.get?_push_of_some _ e)
    have hne : ∀ b o, s₁.heap.get? b = some o → b ≠ D := fun b o e q => by
      have := Heap.get?_push_of_some ({ cls := .type "list_iterator", data := .fields #[.ref l, .int 0 0] } : Obj) e
      rw [q] at this
      rw [show (s₁.heap.push _).get? D = none from hD] at this
      cases this
    obtain ⟨n', hDo⟩ := hpl
    refine k D n' h' tk (F.keeps keep) (fun p hp => ?_) fun p hp => hne p.1 p.2 (N p hp).1
    rcases List.mem_cons.mp hp with rfl | hp
    · refine ⟨hDo, ?_, ?_⟩
      · obtain ⟨oL, _, _, hL, _⟩ := F.ns
        exact (hne L oL hL).symm
      · cases q : h₀.get? D with
        | none => rfl
        | some o => exact absurd rfl (hne D o (F.keep D o q))
    · exact ⟨keep _ _ (N p hp).1, (N p hp).2⟩
/-- the same, its list bound to a name -/
def Comp0A (h₀ : Heap) (L : Addr) (y : Str) (Q : Flow → Shared → Prop) (xv : Value) (s : Shared) : Prop :=
  ∃ l c m news, xv = .ref l ∧ Fr h₀ L s.heap m ∧ News h₀ L s.heap news ∧ (l, PySem.W.listOf #[] c) ∈ news ∧
    ∀ D c' h' tk, Fr h₀ L h' (fun z => if z = y then some (.ref D) else m z) → News h₀ L h' ((D, PySem.W.listOf #[] c') :: news) → (∀ p ∈ news, p.1 ≠ D) → Q .next { s with heap := h', toks := tk }
theorem Comp0A.intro {h₀ : Heap} {L : Addr} {y : Str} {Q : Flow → Shared → Prop} {s : Shared} {l : Addr} {c : Nat} {m : Str → Option Value} {news : List (Addr × Obj)} (F : Fr h₀ L s.heap m) (N : News h₀ L s.heap news) (hl : (l, PySem.W.listOf #[] c) ∈ news)
    (h : ∀ D c' h' tk, Fr h₀ L h' (fun z => if z = y then some (.ref D) else m z) → News h₀ L h' ((D, PySem.W.listOf #[] c') :: news) → (∀ p ∈ news, p.1 ≠ D) → Q .next { s with heap := h', toks := tk }) : Comp0A h₀ L y Q (.ref l) s :=
  ⟨l, c, m, news, rfl, F, N, hl, h⟩
theorem comp0A {s : Shared} {m₀ : Str → Option Value} {elt iter : Expr} {x y : Str} {px py : Pos} {ifs : List Expr} {scope : Scope} {cl : List (Str × Addr)} {pos spos : Pos} {Q : Flow → Shared → Prop}
    (F₀ : Fr h₀ L s.heap m₀) (hh : A.handled = none) (hsw : swapsWith (.ListComp elt [⟨.Name x px, iter, ifs, 0⟩] scope pos) (some (.Name y py)) spos.line env = pure true)
    (hclos : closureFor scope env = pure cl) (hcell : ∀ y ∈ scope.names, y.2 ≠ .cell) (hkind : scope.kind = .function)
    (hnames : ∀ y ∈ scope.names, y.2 = .local → scope.names.lookup y.1 = some .local) (hx : scope.names.lookup x = some .local)
    (hy : env.kindOf y = some .local) (hp : (env.scope.kind == .class || (env.scope.kind == .module && env.locals != env.globals)) = false) (hL : env.locals = L)
    (h : wpAny (model prog w) A (eval iter env) (Comp0A h₀ L y Q) E s)
    (hs : ∀ x, foldedSetIterable iter env x = pure x) :
    wpAny (model prog w) A (exec (.Assign [.Name y py] (.ListComp elt [⟨.Name x px, iter, ifs, 0⟩] scope pos) spos) env) Q E s := by
  refine wpAny_Assign_ListComp_free (fun _ => true) (fun _ _ => True) hsw hclos hcell hkind hnames hx hy hp (wpAny_mono h (fun xv s₁ h₁ => ?_) fun _ _ e => e) hs
  obtain ⟨l, c, m, news, rfl, F, N, hm, k⟩ := h₁
  have hl : s₁.heap.IsList l #[] := News.isList (d := none) (sl := #[]) N hm
  have hlt := Heap.lt_size (N _ hm).1
  have hLlt : L < s₁.heap.objs.size := by obtain ⟨oL, _, _, hL', _⟩ := F.ns; exact Heap.lt_size hL'
  refine wpAny_pyIter_list hl ⟨_, [_, l], [_], 0, (fun i v => (#[] : Array Value)[i]? = some v), (fun i h => h.IsListIter s₁.heap.objs.size l i ∧ h.IsList l #[]), m, rfl, Walks.list hh _ l (Nat.ne_of_lt hlt) #[], Nat.zero_le _, ?_, ?_, ?_, ?_, ?_, ?_⟩
  · exact ⟨⟨_, Heap.get?_push_size _ rfl, rfl, rfl⟩, let ⟨o, ho, r⟩ := hl; ⟨o, Heap.get?_push_of_some _ ho, r⟩⟩
  · intro b hb
    show b < (s₁.heap.push _).objs.size
    rw [Heap.size_push]
    rcases List.mem_cons.mp hb with rfl | hb
    · exact Nat.lt_succ_self _
    · rw [List.mem_singleton.mp hb]; exact Nat.lt_succ_of_lt hlt
  · rw [hL]; intro q; rw [List.mem_singleton.mp q] at hLlt; exact Nat.lt_irrefl _ hLlt
  · rw [hL]; exact (F.push _).ns
  · exact ⟨fun C i v s₃ m₃ E' _ hv => by simp at hv, fun C i v s₃ m₃ E' _ hv => by simp at hv⟩
  · intro D h' tk ys vs hD hlD hpl hlen _ hP hn hk
    rw [hL] at hn hk
    obtain rfl : vs = [] := List.eq_nil_of_length_eq_zero hlen
    have hys : ys = #[] := by
      cases hy : ys.toList with
      | nil => exact Array.toList_inj.mp hy
      | cons a b => rw [hy] at hP; cases hP
    subst hys
    have keep : ∀ b o, b ≠ L → s₁.heap.get? b = some o → h'.get? b = some o := fun b o hb e => hk b o hb (fun q => by rw [List.mem_singleton.mp q] at e; exact absurd (Heap.lt_size e) (Nat.lt_irrefl _)) (Heap.get?_push_of_some _ e)
    have hne : ∀ b o, s₁.heap.get? b = some o → b ≠ D := fun b o e q => by
      have := Heap.get?_push_of_some ({ cls := .type "list_iterator", data := .fields #[.ref l, .int 0 0] } : Obj) e
      rw [q] at this
      rw [show (s₁.heap.push _).get? D = none from hD] at this
      cases this
    obtain ⟨n', hDo⟩ := hpl
    have nL : ∀ b o, h₀.get? b = some o → b ≠ L := fun b o e => Nat.ne_of_lt (Nat.lt_of_lt_of_le (Heap.lt_size e) F.above)
    refine k D n' h' tk ⟨hn, fun b o e => keep b o (nL b o e) (F.keep b o e), F.above⟩ (fun p hp => ?_) fun p hp => hne p.1 p.2 (N p hp).1
    rcases List.mem_cons.mp hp with rfl | hp
    · refine ⟨hDo, ?_, ?_⟩
      · obtain ⟨oL, _, _, hL', _⟩ := F.ns
        exact (hne L oL hL').symm
      · cases q : h₀.get? D with
        | none => rfl
        | some o => exact absurd rfl (hne D o (F.keep D o q))
    · exact ⟨keep _ _ (N p hp).2.1 (N p hp).1, (N p hp).2⟩
end
end Mine
end
section
open PySem PySem.W PyProof.Rows PySem.Calls
namespace Mine
section
variable {prog : Program} {w : World} {A : Around} {E : Value → Shared → Prop} {s : Shared} {env : Env} {h₀ : Heap} {x : Str} {body : List Stmt} {Q : Flow → Shared → Prop}
/-- a loop over a list of the ledger that its turns leave as it is -/
theorem iter_own {l : Addr} {vs : List Value} {c : Nat} {m₀ : Str → Option Value} {news : List (Addr × Obj)} (stored : List Str)
    (hh : A.handled = none) (F : Fr h₀ env.locals s.heap m₀) (N : News h₀ env.locals s.heap news) (hl : (l, PySem.W.listOf vs.toArray c) ∈ news)
    (turn : ∀ (i : Nat) v (u : Str → Option Value) h tk own, vs[i]? = some v → Fr h₀ env.locals h (fun y => if y = x then some v else if stored.contains y then u y else m₀ y) → News h₀ env.locals h (own ++ news) →
      wpAny (model prog w) A (execs body env) (TurnPost h₀ env.locals x stored m₀ (own ++ news) { s with heap := h, toks := tk } Q) E { s with heap := h, toks := tk })
    (done : ∀ (u : Str → Option Value) h tk, Fr h₀ env.locals h (fun y => if y = x then u y else if stored.contains y then u y else m₀ y) → News h₀ env.locals h news → Q .next { s with heap := h, toks := tk }) :
    wpAny (model prog w) A (pyIter (.ref l)) (fun it s₂ => LoopAtV prog w A h₀ env x body Q E it s₂) E s := by
  have hls : s.heap.IsList l vs.toArray := News.isList (d := none) (sl := #[]) N hl
  have hlt : l < s.heap.objs.size := Heap.lt_size (N _ hl).1
  have hne : l ≠ s.heap.objs.size := Nat.ne_of_lt hlt
  refine wpAny_pyIter_list hls ?_
  have W := Walks.list (prog := prog) (w := w) hh s.heap.objs.size l hne vs.toArray
  refine loop_at_law stored W ?_ ?_ ?_ ⟨⟨_, Heap.get?_push_size _ rfl, rfl, rfl⟩, hls.at fun o e => Heap.get?_push_of_some _ e⟩ (F.push _) (fun p hp => ⟨Heap.get?_push_of_some _ (N p hp).1, (N p hp).2⟩) ?_ ?_
  · intro hm
    rcases List.mem_cons.mp hm with e | hm
    · exact absurd F.ns.lt (e ▸ Nat.lt_irrefl _)
    · exact (N _ hl).2.1 (List.mem_singleton.mp hm).symm
  · intro b hb
    rw [List.mem_singleton.mp hb]
    exact next_is_new F
  · intro p hp hI
    exact absurd (Heap.lt_size (N p hp).1) ((List.mem_singleton.mp hI) ▸ Nat.lt_irrefl _)
  · intro i v u h tk own hi hv F₁ N₁
    exact turn i v u h tk own (by simpa using hv) F₁ N₁
  · exact done
/-- over an empty one -/
theorem iter_none {l : Addr} {c : Nat} {m₀ : Str → Option Value} {news : List (Addr × Obj)} (hh : A.handled = none) (F : Fr h₀ env.locals s.heap m₀) (N : News h₀ env.locals s.heap news) (hl : (l, PySem.W.listOf #[] c) ∈ news)
    (done : ∀ (u : Str → Option Value) h tk, Fr h₀ env.locals h (fun y => if y = x then u y else m₀ y) → News h₀ env.locals h news → Q .next { s with heap := h, toks := tk }) :
    wpAny (model prog w) A (pyIter (.ref l)) (fun it s₂ => LoopAtV prog w A h₀ env x body Q E it s₂) E s :=
  iter_own (vs := []) [] hh F N hl (fun i v _ _ _ _ hv => by simp at hv) fun u h tk F' N' => done u h tk F' N'

/-- the end of a turn whose ledger may have grown -/
def TurnJ (h₀ : Heap) (L I : Addr) (o : Obj) (J : (Str → Option Value) → List (Addr × Obj) → Prop) (s₁ : Shared) (Q : Flow → Shared → Prop) (f : Flow) (s₂ : Shared) : Prop :=
  match f with
  | .ret v => Q (.ret v) s₂
  | .brk => Q .next s₂
  | _ => ∃ h' tk m' news', s₂ = { s₁ with heap := h', toks := tk } ∧ Fr h₀ L h' m' ∧ News h₀ L h' ((I, o) :: news') ∧ (I :: news'.map Prod.fst).Nodup ∧ J m' news'
theorem TurnJ.intro {h₀ h' : Heap} {L I : Addr} {o : Obj} {J : (Str → Option Value) → List (Addr × Obj) → Prop} {s₁ : Shared} {Q : Flow → Shared → Prop} {tk : Nat} {m' : Str → Option Value} {news' : List (Addr × Obj)}
    (F : Fr h₀ L h' m') (N : News h₀ L h' ((I, o) :: news')) (nd : (I :: news'.map Prod.fst).Nodup) (hJ : J m' news') : TurnJ h₀ L I o J s₁ Q .next { s₁ with heap := h', toks := tk } := ⟨h', tk, m', news', rfl, F, N, nd, hJ⟩
/-- a loop over a range, its ledger an invariant's -/
theorem iter_rangeJ {r : Addr} {a₀ b₀ : Int} {t₀ u₀ v₀ : Tok} {n : Nat} {m₀ : Str → Option Value} {news : List (Addr × Obj)} (J : Nat → (Str → Option Value) → List (Addr × Obj) → Prop)
    (hh : A.handled = none) (hr : IsRange s.heap r a₀ b₀ 1 t₀ u₀ v₀) (hsmall : Builtin.Range.small a₀ b₀ 1 = true) (hn : Builtin.Range.rangeSize a₀ b₀ 1 = (n : Int)) (F : Fr h₀ env.locals s.heap m₀) (N : News h₀ env.locals s.heap news) (nd : (news.map Prod.fst).Nodup) (hJ : J 0 m₀ news)
    (turn : ∀ (i : Nat) t m₁ news₁ h tk I o, i < n → J i m₁ news₁ → Fr h₀ env.locals h (fun y => if y = x then some (.int (a₀ + i) t) else m₁ y) → News h₀ env.locals h ((I, o) :: news₁) → (I :: news₁.map Prod.fst).Nodup →
      wpAny (model prog w) A (execs body env) (TurnJ h₀ env.locals I o (J (i + 1)) { s with heap := h, toks := tk } Q) E { s with heap := h, toks := tk })
    (done : ∀ m₁ news₁ h tk, J n m₁ news₁ → Fr h₀ env.locals h m₁ → News h₀ env.locals h news₁ → (news₁.map Prod.fst).Nodup → Q .next { s with heap := h, toks := tk }) :
    wpAny (model prog w) A (pyIter (.ref r)) (fun it s₂ => LoopAtV prog w A h₀ env x body Q E it s₂) E s := by
  refine wpAny_pyIter_range hr hsmall ?_
  have W : Walks prog w A s.heap.objs.size [s.heap.objs.size] [s.heap.objs.size] n (fun i v => i < n ∧ ∃ t, v = .int (a₀ + i * 1) t)
      (fun i h => IsRangeIter h s.heap.objs.size (a₀ + (i : Nat) * 1) ((n : Int) - (i : Nat)) 1) := (Walks.range hh _ a₀ 1 n).bound
  refine ⟨_, _, _, n, _, _, m₀, news, fun i m₁ news₁ => (news₁.map Prod.fst).Nodup ∧ J i m₁ news₁, rfl, W, ?_, ?_, ?_, (by show IsRangeIter _ _ _ _ _; rw [hn]; simpa using Heap.get?_push_size _ rfl), F.push _, (fun p hp => ⟨Heap.get?_push_of_some _ (N p hp).1, (N p hp).2⟩), ⟨nd, hJ⟩, ?_, ?_⟩
  · intro hm
    exact absurd F.ns.lt ((List.mem_singleton.mp hm) ▸ Nat.lt_irrefl _)
  · intro b hb
    rw [List.mem_singleton.mp hb]
    exact next_is_new F
  · intro p hp hI
    exact absurd (Heap.lt_size (N p hp).1) ((List.mem_singleton.mp hI) ▸ Nat.lt_irrefl _)
  · rintro i v m₁ news₁ s₁ own ⟨hh', tk', rfl⟩ hin hP ⟨nd₁, hJ₁⟩ hoff hown hown2 hall hst' F₁ N₁
    obtain ⟨_, t, rfl⟩ := hP
    rw [Int.mul_one] at F₁
    obtain ⟨oi, ho⟩ : ∃ oi, hh'.get? s.heap.objs.size = some oi := ⟨_, hst'⟩
    have hio := hall _ (.head _) (next_is_new F) _ ho
    have hone := own_one (I := s.heap.objs.size) hown (fun b hb => .inl (List.mem_singleton.mp hb)) ho N₁
    have nd₂ : (s.heap.objs.size :: news₁.map Prod.fst).Nodup := List.nodup_cons.mpr ⟨fun hm => by obtain ⟨p, hp, e⟩ := List.mem_map.mp hm; exact hoff p hp (e ▸ .head _), nd₁⟩
    refine wpAny_mono (turn i t m₁ news₁ hh' tk' s.heap.objs.size _ hin hJ₁ F₁ (news_one hio N₁) nd₂) (fun f s₂ p => ?_) fun _ _ e => e
    have fin : (∃ h' tk m' news', s₂ = { { s with heap := hh', toks := tk' } with heap := h', toks := tk } ∧ Fr h₀ env.locals h' m' ∧ News h₀ env.locals h' ((s.heap.objs.size, oi) :: news') ∧ (s.heap.objs.size :: news'.map Prod.fst).Nodup ∧ J (i + 1) m' news') →
        LoopStepU h₀ env.locals [s.heap.objs.size] own (fun m₁ news₁ => (news₁.map Prod.fst).Nodup ∧ J (i + 1) m₁ news₁) { s with heap := hh', toks := tk' } .next s₂ := by
      rintro ⟨h', tk, m', news', e, F', N', nd', hJ'⟩
      refine ⟨rfl, h', tk, m', news', e, F', fun p hp => ?_, fun p hp hq => ?_, (List.nodup_cons.mp nd').2, hJ'⟩
      · rcases List.mem_append.mp hp with hp | hp
        · rw [hone p hp]; exact N' _ (.head _)
        · exact N' _ (.tail _ hp)
      · exact (List.nodup_cons.mp nd').1 (List.mem_map.mpr ⟨p, hp, List.mem_singleton.mp hq⟩)
    cases f with
    | ret v => exact .ret p
    | brk => exact .brk p
    | next => exact .next (fin p)
    | cont => exact .cont (fin p)
  · rintro h' tk m' news' F' N' _ ⟨nd', hJ'⟩
    exact done m' news' h' tk hJ' F' N' nd'
theorem For_own {x : Str} {px pos : Pos} {iter : Expr} {m : Str → Option Value} (F : Fr h₀ env.locals s.heap m) (hx : env.kindOf x = some .local)
    (hp : (env.scope.kind == .class || (env.scope.kind == .module && env.locals != env.globals)) = false)
    (h : wpAny (model prog w) A (eval iter env) (fun xv s₁ => wpAny (model prog w) A (pyIter xv) (fun it s₂ => LoopAtV prog w A h₀ env x body Q E it s₂) E s₁) E s)
    (hs : ∀ x, foldedSetIterable iter env x = pure x)
    (hE : PassesOwn (model prog w) A env E) :
    wpAny (model prog w) A (exec (.For (.Name x px) iter body [] pos) env) Q E s := For_invV h₀ hx hp h hs hE
end
end Mine
end
section
open PySem PySem.W PyProof.Rows PySem.Calls
namespace Mine
/-- a list, one of its elements taken out -/
inductive Pull (p : Addr × Obj) : List (Addr × Obj) → List (Addr × Obj) → Prop
  | head {r : List (Addr × Obj)} : Pull p (p :: r) r
  | tail {q : Addr × Obj} {r r' : List (Addr × Obj)} : Pull p r r' → Pull p (q :: r) (q :: r')
theorem Pull.perm {p : Addr × Obj} : ∀ {l r : List (Addr × Obj)}, Pull p l r → l.Perm (p :: r)
  | _, _, .head => .refl _
  | _, _, .tail h => (h.perm.cons _).trans (.swap ..)
theorem Pull.news {p : Addr × Obj} {l r : List (Addr × Obj)} {h₀ h : Heap} {L : Addr} (q : Pull p l r) (N : News h₀ L h l) : News h₀ L h (p :: r) := fun x hx => N x (q.perm.mem_iff.mpr hx)
theorem Pull.nd {p : Addr × Obj} {l r : List (Addr × Obj)} (q : Pull p l r) (n : (l.map Prod.fst).Nodup) : ((p :: r).map Prod.fst).Nodup := (q.perm.map _).nodup_iff.mp n
theorem Pull.under {p q : Addr × Obj} {l r : List (Addr × Obj)} (h : Pull p l r) : Pull p (q :: l) (q :: r) := h.tail
end Mine
end
section
open PySem PySem.W PyProof.Rows PySem.Calls
namespace Mine
section
variable {prog : Program} {w : World} {A : Around} {E : Value → Shared → Prop} {env : Env} {h₀ : Heap} {L : Addr}
/-- where the items of a block come from: none, or one text -/
def Src1 (prog : Program) (w : World) (news : List (Addr × Obj)) (kv : Str) (n : Nat) (xv : Value) : Prop :=
  (∃ l c vs, xv = .ref l ∧ (l, PySem.W.listOf (List.toArray vs) c) ∈ news ∧ vs.length = n ∧ ∀ v ∈ vs, ∃ t, v = Value.str kv t) ∨
  (∃ d o kvs, xv = .ref d ∧ (d, o) ∈ news ∧ o.IsDictOf (strKind prog w) kvs ∧ (d == sysModules) = false ∧ kvs.length = n ∧ ∀ p ∈ kvs, p.1 = kv)

/-- the tests of a block: none, or one -/
inductive Tests1 (prog : Program) (w : World) (A : Around) (ce : Env) (R : Bool → Shared → Prop) (E' : Value → Shared → Prop) (s₃ : Shared) : List Expr → Prop
  | none : R true s₃ → Tests1 prog w A ce R E' s₃ []
  | one {c : Expr} : wpAny (model prog w) A (isTrue c ce (eval c ce)) R E' s₃ → Tests1 prog w A ce R E' s₃ [c]
theorem Tests1.run {ce : Env} {R : Bool → Shared → Prop} {E' : Value → Shared → Prop} {s₃ : Shared} {ifs : List Expr} (h : Tests1 prog w A ce R E' s₃ ifs) :
    wpAny (model prog w) A (forIn ifs true fun c r => if r = true then do let ok ← isTrue c ce (eval c ce); pure (ForInStep.yield ok) else pure (ForInStep.yield r)) R E' s₃ := by
  cases h with
  | none h => simp only [List.forIn_nil]; exact wpAny_pure h
  | one h =>
    simp only [List.forIn_cons, if_true, List.forIn_nil]
    refine wpAny_bind (wpAny_bind (wpAny_mono h (fun ok s' x => wpAny_pure (wpAny_pure x)) fun _ _ e => e))
def CompQ (prog : Program) (w : World) (A : Around) (env : Env) (scope : Scope) (cl : List (Str × Addr)) (x : Str) (ifs : List Expr) (elt : Expr) (h₀ : Heap) (L : Addr) (Q : Value → Shared → Prop) (xv : Value) (s : Shared) : Prop :=
  ∃ m news kv rv n pb, Fr h₀ L s.heap m ∧ News h₀ L s.heap news ∧ Src1 prog w news kv n xv ∧ n ≤ 1 ∧
    (n = 1 → ∀ C s₃ m₃ t E', Fr h₀ C s₃.heap m₃ → News h₀ C s₃.heap news → m₃ x = some (.str kv t) → Tests1 prog w A (compEnvC scope cl C env) (fun ok s₄ => ok = pb ∧ Keeps s₃ s₄) E' s₃ ifs) ∧
    (n = 1 → pb = true → ∀ C s₃ m₃ t E', Fr h₀ C s₃.heap m₃ → News h₀ C s₃.heap news → m₃ x = some (.str kv t) →
      wpAny (model prog w) A (eval elt (compEnvC scope cl C env)) (fun y s₄ => (∃ t, y = Value.str rv t) ∧ Keeps s₃ s₄) E' s₃) ∧
    ∀ D c h' tk its, (n = 1 ∧ pb = true → ∃ t, its = [Value.str rv t]) → (n = 0 ∨ pb = false → its = []) →
      Fr h₀ L h' m → News h₀ L h' ((D, PySem.W.listOf (List.toArray its) c) :: news) → (∀ p ∈ news, p.1 ≠ D) → Q (.ref D) { s with heap := h', toks := tk }
theorem comp_end {s₁ : Shared} {I : Addr} {oI : Obj} {wr : List Addr} {n : Nat} {P : Nat → Value → Prop} {elt : Expr} {x : Str} {ifs : List Expr} {scope : Scope} {cl : List (Str × Addr)} {Q : Value → Shared → Prop}
    {m : Str → Option Value} {news : List (Addr × Obj)} {kv rv : Str} {pb : Bool} (hI : I = s₁.heap.objs.size) (hwr : wr = [I])
    (hP : ∀ i v, P i v → n = 1 ∧ ∃ t, v = Value.str kv t) (hn : n ≤ 1) (F : Fr h₀ L s₁.heap m) (N : News h₀ L s₁.heap news)
    (ht : n = 1 → ∀ C s₃ m₃ t E', Fr h₀ C s₃.heap m₃ → News h₀ C s₃.heap news → m₃ x = some (.str kv t) → Tests1 prog w A (compEnvC scope cl C env) (fun ok s₄ => ok = pb ∧ Keeps s₃ s₄) E' s₃ ifs)
    (he : n = 1 → pb = true → ∀ C s₃ m₃ t E', Fr h₀ C s₃.heap m₃ → News h₀ C s₃.heap news → m₃ x = some (.str kv t) →
      wpAny (model prog w) A (eval elt (compEnvC scope cl C env)) (fun y s₄ => (∃ t, y = Value.str rv t) ∧ Keeps s₃ s₄) E' s₃)
    (k : ∀ D c h' tk its, (n = 1 ∧ pb = true → ∃ t, its = [Value.str rv t]) → (n = 0 ∨ pb = false → its = []) →
      Fr h₀ L h' m → News h₀ L h' ((D, PySem.W.listOf (List.toArray its) c) :: news) → (∀ p ∈ news, p.1 ≠ D) → Q (.ref D) { s₁ with heap := h', toks := tk }) :
    QuietOnC prog w A env scope cl x ifs elt wr P (fun _ => pb) (fun _ y => ∃ t, y = Value.str rv t) { s₁ with heap := s₁.heap.push oI } ∧
      (∀ D h' tk ys (vs : List Value), (s₁.heap.push oI).get? D = none → h'.IsList D ys → h'.PlainList D ys → vs.length = n → (∀ j v, vs[j]? = some v → P j v) → Paired (fun _ y => ∃ t, y = Value.str rv t) (vs.filter fun _ => pb) ys.toList →
        (∀ b o, b ∉ wr → (s₁.heap.push oI).get? b = some o → h'.get? b = some o) → Q (.ref D) { { s₁ with heap := s₁.heap.push oI } with heap := h', toks := tk }) := by
  subst hI hwr
  have old : ∀ b o, s₁.heap.get? b = some o → b ∉ [s₁.heap.objs.size] := fun b o e q => by rw [List.mem_singleton.mp q] at e; exact absurd (Heap.lt_size e) (Nat.lt_irrefl _)
  have ground : ∀ (C : Addr) (s₃ : Shared) (m₃ : Str → Option Value), (s₁.heap.push oI).objs.size ≤ C → s₃.heap.Ns C m₃ → (∀ b o, b ∉ [s₁.heap.objs.size] → (s₁.heap.push oI).get? b = some o → s₃.heap.get? b = some o) →
      Fr h₀ C s₃.heap m₃ ∧ News h₀ C s₃.heap news := fun C s₃ m₃ hC hns hk => by
    have kk : ∀ b o, s₁.heap.get? b = some o → s₃.heap.get? b = some o := fun b o e => hk b o (old b o e) (Heap.get?_push_of_some _ e)
    have hle : s₁.heap.objs.size < C := by rw [Heap.size_push] at hC; exact hC
    refine ⟨⟨hns, fun b o e => kk b o (F.keep b o e), Nat.le_of_lt (Nat.lt_of_le_of_lt (Nat.le_of_lt (Nat.lt_of_le_of_lt F.above F.ns.lt)) hle)⟩, fun p hp => ⟨kk _ _ (N p hp).1, ?_, (N p hp).2.2⟩⟩
    exact Nat.ne_of_lt (Nat.lt_trans (Heap.lt_size (N p hp).1) hle)
  refine ⟨⟨fun C i v s₃ m₃ E' hC hp hns hx hk _ => ?_, fun C i v s₃ m₃ E' hC hp hpb hns hx hk _ => ?_⟩, fun D h' tk ys vs hD hl hpl hlen hPv hF hk => ?_⟩
  · obtain ⟨h1, t, rfl⟩ := hP i v hp
    obtain ⟨F₃, N₃⟩ := ground C s₃ m₃ hC hns hk
    exact (ht h1 C s₃ m₃ t E' F₃ N₃ hx).run
  · obtain ⟨h1, t, rfl⟩ := hP i v hp
    obtain ⟨F₃, N₃⟩ := ground C s₃ m₃ hC hns hk
    exact he h1 hpb C s₃ m₃ t E' F₃ N₃ hx
  · have keep : ∀ b o, s₁.heap.get? b = some o → h'.get? b = some o := fun b o e => hk b o (old b o e) (Heap.get?_push_of_some _ e)
    have hne : ∀ b o, s₁.heap.get? b = some o → b ≠ D := fun b o e q => by
      have := Heap.get?_push_of_some oI e
      rw [q, hD] at this
      cases this
    obtain ⟨n', hDo⟩ := hpl
    refine k D n' h' tk ys.toList ?_ ?_ (F.keeps keep) (fun p hp => ?_) fun p hp => hne p.1 p.2 (N p hp).1
    · rintro ⟨h1, rfl⟩
      rw [h1] at hlen
      obtain ⟨v, rfl⟩ : ∃ v, vs = [v] := by
        cases vs with
        | nil => cases hlen
        | cons v r => cases r with
          | nil => exact ⟨v, rfl⟩
          | cons _ _ => simp at hlen
      simp only [List.filter_cons, if_true, List.filter_nil] at hF
      generalize ys.toList = zs at hF
      cases hF with
      | cons a b => cases b; obtain ⟨t, rfl⟩ := a; exact ⟨t, rfl⟩
    · intro h1
      have hv : vs.filter (fun _ => pb) = [] := by
        rcases h1 with h1 | h1
        · rw [List.eq_nil_of_length_eq_zero (hlen.trans h1)]; rfl
        · rw [h1]; simp
      rw [hv] at hF
      generalize ys.toList = zs at hF
      cases hF; rfl
    · rcases List.mem_cons.mp hp with rfl | hp
      · refine ⟨?_, ?_, ?_⟩
        · rw [Array.toArray_toList]; exact hDo
        · obtain ⟨oL, _, _, hL, _⟩ := F.ns
          exact (hne L oL hL).symm
        · cases q : h₀.get? D with
          | none => rfl
          | some o => exact absurd rfl (hne D o (F.keep D o q))
      · exact ⟨keep _ _ (N p hp).1, (N p hp).2⟩
theorem str_of_is {k : Str} {v : Value} (h : (strKind prog w).is k v = true) : ∃ t, v = Value.str k t := by
  exact Value.isStrOf_shape h
theorem wpAny_ListComp_free2 {s : Shared} {elt iter : Expr} {x : Str} {px : Pos} {ifs : List Expr} {scope : Scope} {cl : List (Str × Addr)} {pos : Pos} {Q : Value → Shared → Prop}
    (hclos : closureFor scope env = pure cl) (hcell : ∀ y ∈ scope.names, y.2 ≠ .cell) (hkind : scope.kind = .function)
    (hnames : ∀ y ∈ scope.names, y.2 = .local → scope.names.lookup y.1 = some .local) (hx : scope.names.lookup x = some .local)
    (h : wpAny (model prog w) A (eval iter env) (fun xv s₁ => ∃ (p : Value → Bool) (F : Value → Value → Prop), wpAny (model prog w) A (pyIter xv) (fun it s₂ => ∃ I fp wr n P St, it = .ref I ∧ Walks prog w A I fp wr n P St ∧ n ≤ sizeLine ∧ St 0 s₂.heap ∧ (∀ b ∈ fp, b < s₂.heap.objs.size) ∧
      QuietOnC prog w A env scope cl x ifs elt wr P p F s₂ ∧
      (∀ D h' tk ys (vs : List Value), s₂.heap.get? D = none → h'.IsList D ys → h'.PlainList D ys → vs.length = n → (∀ j v, vs[j]? = some v → P j v) → Paired F (vs.filter p) ys.toList →
        (∀ b o, b ∉ wr → s₂.heap.get? b = some o → h'.get? b = some o) → Q (.ref D) { s₂ with heap := h', toks := tk })) E s₁) E s)
    (hs : ∀ x, foldedSetIterable iter env x = pure x) :
    wpAny (model prog w) A (eval (.ListComp elt [⟨.Name x px, iter, ifs, 0⟩] scope pos) env) Q E s := by
  rw [eval_ListComp]
  refine wpAny_comprehension_free (use := none) rfl hs hclos hkind hnames (wpAny_mono h (fun xv s₁ h₁ => ?_) fun _ _ e => e)
  obtain ⟨p, F, h₁⟩ := h₁
  refine wpAny_mono h₁ (fun it s₂ h₂ => ?_) fun _ _ e => e
  obtain ⟨I, fp, wr, n, P, St, rfl, W, hsz, hst, hfp, hq, hQ⟩ := h₂
  refine comp_block_walkC (RR := fun acc C => compPost (model prog w) A E none Q acc C) W hsz p F hcell hkind hx hst hfp hq ?_
  intro D C h' tk m' ys vs hD hC hDC hn hl hpl hlen hP hF hk
  exact ⟨m', hn, fun h'' hs'' => hQ D h'' tk ys vs hD (hl.extBut hs''.extBut hDC) (hpl.extBut hs''.extBut hDC) hlen hP hF fun b o hbf e => hs''.extBut b o (by rintro rfl; rw [hC] at e; cases e) (hk b o hbf e)⟩
theorem compQ {s : Shared} {m₀ : Str → Option Value} {elt iter : Expr} {x : Str} {px : Pos} {ifs : List Expr} {scope : Scope} {cl : List (Str × Addr)} {pos : Pos} {Q : Value → Shared → Prop}
    (F₀ : Fr h₀ L s.heap m₀) (hh : A.handled = none) (hclos : closureFor scope env = pure cl) (hcell : ∀ y ∈ scope.names, y.2 ≠ .cell) (hkind : scope.kind = .function)
    (hnames : ∀ y ∈ scope.names, y.2 = .local → scope.names.lookup y.1 = some .local) (hx : scope.names.lookup x = some .local)
    (h : wpAny (model prog w) A (eval iter env) (CompQ prog w A env scope cl x ifs elt h₀ L Q) E s)
    (hs : ∀ x, foldedSetIterable iter env x = pure x) :
    wpAny (model prog w) A (eval (.ListComp elt [⟨.Name x px, iter, ifs, 0⟩] scope pos) env) Q E s := by
  obtain ⟨pb0, hpb0⟩ : ∃ b : Bool, b = true := ⟨true, rfl⟩
  refine wpAny_ListComp_free2 hclos hcell hkind hnames hx (wpAny_mono h (fun xv s₁ h₁ => ?_) fun _ _ e => e) hs
  obtain ⟨m, news, kv, rv, n, pb, F, N, S, hn, ht, he, k⟩ := h₁
  refine ⟨fun _ => pb, fun _ y => ∃ t, y = Value.str rv t, ?_⟩
  rcases S with ⟨l, c, vs, rfl, hm, hvl, hvs⟩ | ⟨d, o, kvs, rfl, hm, hd, lo, hvl, hkk⟩
  · have hl : s₁.heap.IsList l (List.toArray vs) := News.isList (d := none) (sl := #[]) N hm
    have hlt := Heap.lt_size (N _ hm).1
    refine wpAny_pyIter_list hl ⟨_, [_, l], [_], n, (fun i v => (List.toArray vs)[i]? = some v), (fun i h => h.IsListIter s₁.heap.objs.size l i ∧ h.IsList l (List.toArray vs)), rfl, by rw [← hvl, ← List.size_toArray]; exact Walks.list hh _ l (Nat.ne_of_lt hlt) (List.toArray vs), by rw [sizeLine_eq]; omega, ?_, ?_, ?_⟩
    · exact ⟨⟨_, Heap.get?_push_size _ rfl, rfl, rfl⟩, let ⟨o, ho, r⟩ := hl; ⟨o, Heap.get?_push_of_some _ ho, r⟩⟩
    · intro b hb
      show b < (s₁.heap.push _).objs.size
      rw [Heap.size_push]
      rcases List.mem_cons.mp hb with rfl | hb
      · exact Nat.lt_succ_self _
      · rw [List.mem_singleton.mp hb]; exact Nat.lt_succ_of_lt hlt
    · refine comp_end rfl rfl (fun i v hv => ?_) hn F N ht he k
      have hi : vs[i]? = some v := by simpa using hv
      have hv' := hvs v (List.mem_of_getElem? hi)
      have : i < vs.length := (List.getElem?_eq_some_iff.mp hi).1
      exact ⟨by omega, hv'⟩
  · obtain ⟨ep, hat⟩ := (kda_dict N hm hd).dictAt
    have hlt := Heap.lt_size (N _ hm).1
    refine wpAny_pyIter_dict lo hat ⟨_, [_, d], [_], n, (fun i v => ∃ k x, kvs[i]? = some (k, x) ∧ (strKind prog w).is k v = true), (fun i h => h.IsKeyIter s₁.heap.objs.size d i kvs.length ep ∧ h.DictAt (strKind prog w) d kvs ep), rfl, by rw [← hvl]; exact Walks.dictKeys hh _ d (Nat.ne_of_lt hlt) kvs ep, by rw [sizeLine_eq]; omega, ?_, ?_, ?_⟩
    · exact ⟨⟨_, Heap.get?_push_size _ rfl, rfl, rfl⟩, hat.push _⟩
    · intro b hb
      show b < (s₁.heap.push _).objs.size
      rw [Heap.size_push]
      rcases List.mem_cons.mp hb with rfl | hb
      · exact Nat.lt_succ_self _
      · rw [List.mem_singleton.mp hb]; exact Nat.lt_succ_of_lt hlt
    · refine comp_end rfl rfl (fun i v hv => ?_) hn F N ht he k
      obtain ⟨k', x', hi, hk'⟩ := hv
      have := hkk _ (List.mem_of_getElem? hi)
      dsimp only at this
      subst this
      have : i < kvs.length := (List.getElem?_eq_some_iff.mp hi).1
      exact ⟨by omega, str_of_is hk'⟩
end
end Mine
end
section
open PySem PySem.W PyProof.Rows PySem.Calls
namespace Mine
section
variable {prog : Program} {w : World} {A : Around} {E : Value → Shared → Prop} {s : Shared} {h₀ : Heap} {L D : Addr} {m : Str → Option Value} {news : List (Addr × Obj)}
/-- a list of one text, sorted -/
theorem sort_one {x : Str} {t : Tok} {n : Nat} {g : Obj → List (Addr × Obj)} {Q : Value → Shared → Prop} (F : Fr h₀ L s.heap m) (N : News h₀ L s.heap news) (U : UpdF D (PySem.W.listOf #[.str x t] n) news g)
    (h : ∀ c h', Fr h₀ L h' m → News h₀ L h' (g (PySem.W.listOf #[.str x t] c)) → Q .none { s with heap := h' }) : wpAny (model prog w) A (call (.builtin "list.sort") [.ref D]) Q E s := by
  obtain ⟨pre, post, rfl, hg, x1, x2⟩ := U.split
  have z := N (D, PySem.W.listOf #[.str x t] n) (List.mem_append.mpr (.inr (.head _)))
  have ho : s.heap.get? D = some (seqObj "list" [Value.str x t].toArray n) := z.1
  refine wpAny_call_entry PyProof.Rows.slot_list_sort ⟨_, z.1, rfl⟩ PyProof.Rows.entry_list_sort (list_sort_treeK (n := n) (vs := [Value.str x t]) PyProof.Rows.strKind_oneLt ho ?_ ?_ (by show 1 < 64; omega) fun st' hp _ => ⟨.none, rfl, ?_⟩) (PyProof.Rows.args_list_sort _)
  · intro p hp
    rw [pairsOf_toList] at hp
    obtain rfl := List.mem_singleton.mp hp
    exact ⟨_, rfl⟩
  · intro v₁ v₂ rest e
    cases e
  · have eo : (arrOf st').map (·.2) = #[Value.str x t] := by
      have h1 : (arrOf st').toList.Perm [(Value.str x t, Value.str x t)] := by
        have := Array.perm_iff_toList_perm.mp hp
        rw [pairsOf_toList] at this
        exact this
      have h2 := List.perm_singleton.mp h1
      have h3 : arrOf st' = #[(Value.str x t, Value.str x t)] := by rw [← Array.toArray_toList (xs := arrOf st'), h2]
      rw [h3]; simp
    rw [eo]
    obtain ⟨c, hc⟩ := sortedHeap_at (vs := [Value.str x t]) (out := #[Value.str x t]) ho
    refine h c _ (ksk_fr (((ksk_fr F (Heap.SameBut.update s.heap D (Obj.mapSeq fun _ => #[])) z.2.1 z.2.2).push (seqObj "tuple" [Value.str x t].toArray 0)).push (seqObj "list" #[] 0)) (Heap.SameBut.update _ D (Obj.mapSeq fun _ => #[Value.str x t])) z.2.1 z.2.2) ?_
    rw [hg]
    intro p hq
    rcases List.mem_append.mp hq with hq | hq
    · have y := N p (List.mem_append_left _ hq)
      exact ⟨(sortedHeap_old (x1 p hq) (Heap.lt_size y.1)).trans y.1, y.2⟩
    · rcases List.mem_cons.mp hq with rfl | hq
      · exact ⟨hc, z.2⟩
      · have y := N p (List.mem_append_right _ (.tail _ hq))
        exact ⟨(sortedHeap_old (x2 p hq) (Heap.lt_size y.1)).trans y.1, y.2⟩
end
section
variable {prog : Program} {w : World} {A : Around} {env : Env} {h₀ : Heap} {L : Addr}
theorem CompQ.none {scope : Scope} {cl : List (Str × Addr)} {x : Str} {ifs : List Expr} {elt : Expr} {Q : Value → Shared → Prop} {xv : Value} {s : Shared} {m : Str → Option Value} {news : List (Addr × Obj)}
    (F : Fr h₀ L s.heap m) (N : News h₀ L s.heap news) (S : Src1 prog w news "" 0 xv)
    (k : ∀ D c h' tk its, its = [] → Fr h₀ L h' m → News h₀ L h' ((D, PySem.W.listOf (List.toArray its) c) :: news) → (∀ p ∈ news, p.1 ≠ D) → Q (.ref D) { s with heap := h', toks := tk }) :
    CompQ prog w A env scope cl x ifs elt h₀ L Q xv s :=
  ⟨m, news, "", "", 0, false, F, N, S, by decide, fun e => absurd e (by decide), fun e => absurd e (by decide), fun D c h' tk its _ h2 F' N' hne => k D c h' tk its (h2 (.inl rfl)) F' N' hne⟩
theorem CompQ.drop {scope : Scope} {cl : List (Str × Addr)} {x : Str} {t : Expr} {elt : Expr} {Q : Value → Shared → Prop} {xv : Value} {s : Shared} {m : Str → Option Value} {news : List (Addr × Obj)} {kv : Str}
    (F : Fr h₀ L s.heap m) (N : News h₀ L s.heap news) (S : Src1 prog w news kv 1 xv)
    (ht : ∀ C s₃ m₃ tk E', Fr h₀ C s₃.heap m₃ → News h₀ C s₃.heap news → m₃ x = some (.str kv tk) → wpAny (model prog w) A (isTrue t (compEnvC scope cl C env) (eval t (compEnvC scope cl C env))) (fun ok s₄ => ok = false ∧ Keeps s₃ s₄) E' s₃)
    (k : ∀ D c h' tk its, its = [] → Fr h₀ L h' m → News h₀ L h' ((D, PySem.W.listOf (List.toArray its) c) :: news) → (∀ p ∈ news, p.1 ≠ D) → Q (.ref D) { s with heap := h', toks := tk }) :
    CompQ prog w A env scope cl x [t] elt h₀ L Q xv s :=
  ⟨m, news, kv, "", 1, false, F, N, S, by decide, fun _ C s₃ m₃ tk E' F₃ N₃ hx => .one (ht C s₃ m₃ tk E' F₃ N₃ hx), fun _ e => absurd e (by decide), fun D c h' tk its _ h2 F' N' hne => k D c h' tk its (h2 (.inr rfl)) F' N' hne⟩
theorem CompQ.hold {scope : Scope} {cl : List (Str × Addr)} {x : Str} {t : Expr} {elt : Expr} {Q : Value → Shared → Prop} {xv : Value} {s : Shared} {m : Str → Option Value} {news : List (Addr × Obj)} {kv rv : Str}
    (F : Fr h₀ L s.heap m) (N : News h₀ L s.heap news) (S : Src1 prog w news kv 1 xv)
    (ht : ∀ C s₃ m₃ tk E', Fr h₀ C s₃.heap m₃ → News h₀ C s₃.heap news → m₃ x = some (.str kv tk) → wpAny (model prog w) A (isTrue t (compEnvC scope cl C env) (eval t (compEnvC scope cl C env))) (fun ok s₄ => ok = true ∧ Keeps s₃ s₄) E' s₃)
    (he : ∀ C s₃ m₃ tk E', Fr h₀ C s₃.heap m₃ → News h₀ C s₃.heap news → m₃ x = some (.str kv tk) → wpAny (model prog w) A (eval elt (compEnvC scope cl C env)) (fun y s₄ => (∃ t, y = Value.str rv t) ∧ Keeps s₃ s₄) E' s₃)
    (k : ∀ D c h' tk its, (∃ t, its = [Value.str rv t]) → Fr h₀ L h' m → News h₀ L h' ((D, PySem.W.listOf (List.toArray its) c) :: news) → (∀ p ∈ news, p.1 ≠ D) → Q (.ref D) { s with heap := h', toks := tk }) :
    CompQ prog w A env scope cl x [t] elt h₀ L Q xv s :=
  ⟨m, news, kv, rv, 1, true, F, N, S, by decide, fun _ C s₃ m₃ tk E' F₃ N₃ hx => .one (ht C s₃ m₃ tk E' F₃ N₃ hx), fun _ _ C s₃ m₃ tk E' F₃ N₃ hx => he C s₃ m₃ tk E' F₃ N₃ hx, fun D c h' tk its h1 _ F' N' hne => k D c h' tk its (h1 ⟨rfl, rfl⟩) F' N' hne⟩
theorem CompQ.all {scope : Scope} {cl : List (Str × Addr)} {x : Str} {elt : Expr} {Q : Value → Shared → Prop} {xv : Value} {s : Shared} {m : Str → Option Value} {news : List (Addr × Obj)} {kv rv : Str}
    (F : Fr h₀ L s.heap m) (N : News h₀ L s.heap news) (S : Src1 prog w news kv 1 xv)
    (he : ∀ C s₃ m₃ tk E', Fr h₀ C s₃.heap m₃ → News h₀ C s₃.heap news → m₃ x = some (.str kv tk) → wpAny (model prog w) A (eval elt (compEnvC scope cl C env)) (fun y s₄ => (∃ t, y = Value.str rv t) ∧ Keeps s₃ s₄) E' s₃)
    (k : ∀ D c h' tk its, (∃ t, its = [Value.str rv t]) → Fr h₀ L h' m → News h₀ L h' ((D, PySem.W.listOf (List.toArray its) c) :: news) → (∀ p ∈ news, p.1 ≠ D) → Q (.ref D) { s with heap := h', toks := tk }) :
    CompQ prog w A env scope cl x [] elt h₀ L Q xv s :=
  ⟨m, news, kv, rv, 1, true, F, N, S, by decide, fun _ C s₃ m₃ tk E' F₃ N₃ hx => .none ⟨rfl, s₃.heap, s₃.toks, rfl, fun _ _ e => e⟩, fun _ _ C s₃ m₃ tk E' F₃ N₃ hx => he C s₃ m₃ tk E' F₃ N₃ hx, fun D c h' tk its h1 _ F' N' hne => k D c h' tk its (h1 ⟨rfl, rfl⟩) F' N' hne⟩
theorem Src1.list1 {news : List (Addr × Obj)} {l : Addr} {c : Nat} {kv : Str} {t : Tok} (h : (l, PySem.W.listOf #[.str kv t] c) ∈ news) : Src1 prog w news kv 1 (.ref l) := .inl ⟨l, c, [.str kv t], rfl, h, rfl, fun v hv => ⟨t, List.mem_singleton.mp hv⟩⟩
theorem Src1.list0 {news : List (Addr × Obj)} {l : Addr} {c : Nat} {vs : List Value} {ns : List Int} (h : (l, PySem.W.listOf (List.toArray vs) c) ∈ news) (hi : IntsAre vs ns) (hn : ns.length = 0) : Src1 prog w news "" 0 (.ref l) :=
  .inl ⟨l, c, vs, rfl, h, hi.length.trans hn, fun v hv => by rw [List.eq_nil_of_length_eq_zero (hi.length.trans hn)] at hv; cases hv⟩
theorem Src1.dict1 {news : List (Addr × Obj)} {d : Addr} {o : Obj} {kv : Str} {v : Value} (h : (d, o) ∈ news) (hd : o.IsDictOf (strKind prog w) [(kv, v)]) (lo : (d == sysModules) = false) : Src1 prog w news kv 1 (.ref d) :=
  .inr ⟨d, o, _, rfl, h, hd, lo, rfl, fun p hp => by rw [List.mem_singleton.mp hp]⟩
theorem Src1.dict0 {news : List (Addr × Obj)} {d : Addr} {o : Obj} (h : (d, o) ∈ news) (hd : o.IsDictOf (strKind prog w) []) (lo : (d == sysModules) = false) : Src1 prog w news "" 0 (.ref d) :=
  .inr ⟨d, o, _, rfl, h, hd, lo, rfl, fun p hp => by cases hp⟩
end
end Mine
end
section
open PySem PySem.W PyProof.Rows PySem.Calls Builtin Builtin.ObjectAttr
namespace Mine
section
variable {prog : Program} {w : World} {A : Around} {R : Result → Shared → Prop} {h : Heap} {g : Array GenState} {d : Drawn} {t : Nat} {os : OsState} {K : Frag}
variable {nm q : Str} {C N : Addr} {bs bm bmB : List Value} {hdct : Bool} {sn : List Str} {sub : List Value} {ab : Bool} {col : Option Bool} {dd : Option Addr} {k0 k1 k2 k3 k5 : Option Value} {B newId initId : String}
/-- the types that a class of one's own stands under -/
structure Under (bm : List Value) (B : String) : Prop where
  hB : bm.contains (.type B) = true
  hA : bm.contains (.type "AttributeError") = false
  hN : bm.contains (.type "NameError") = false
  hE : bm.contains (.type "BaseException") = true
theorem Under.cons {X : String} {b : Bool} (hb : bm.contains (.type X) = b) : (Value.ref C :: bm).contains (.type X) = b := by rw [List.contains_cons, hb]; rfl
theorem exc_check {M : Model} {E : Value → Shared → Prop} (F : ExcBaseFacts B newId initId bmB) (U : Under bm B) {rest : List Value} {Q : Unit → Shared → Prop} (hC : h.get? C = some (excClassObj nm q C N bs bm hdct sn sub ab col dd k0 k1 k2 k3 k5 newId))
    (hq : Q () ⟨h, g, d, t, os⟩) : wpAny M A (checkBuiltinCall newId ⟨.ref C :: rest, []⟩) Q E ⟨h, g, d, t, os⟩ := by
  have c := Under.cons (C := C) U.hB
  have s := F.noStar
  simp only [checkBuiltinCall, F.newKind, F.newSplit, F.newRow]
  repeat (first | refine wpAny_loadPart_at hC ?_ | (refine wpAny_isSubtype_exc hC ?_; rw [c]) | refine wpAny_staticBase_exc hC ?_ | refine wpAny_madeBy_exc hC ?_ | simp only [bne_self_eq_false, Bool.false_eq_true, if_false] | wp_step)
  exact hq
abbrev excNew (C t : Addr) : Obj := { cls := .ref C, data := .fields #[.ref t, .none, .none, .none, .bool false, .none] }
abbrev tupNew (rest : List Value) : Obj := { cls := .type "tuple", data := .seq rest.toArray }
theorem exc_new (F : ExcBaseFacts B newId initId bmB) (U : Under bm B) {rest : List Value} (hC : h.get? C = some (excClassObj nm q C N bs bm hdct sn sub ab col dd k0 k1 k2 k3 k5 newId))
    (hq : R (.ok (.ret (.ref (h.objs.size + 1)))) ⟨(h.push (tupNew rest)).push (excNew C h.objs.size), g, d, t, os⟩) (hrest : rest.length ≤ sizeLine) :
    codeAny (model prog w) A (.builtin newId ⟨.ref C :: rest, []⟩) R ⟨h, g, d, t, os⟩ := by
  have e1 := F.ends
  have c1 := Under.cons (C := C) U.hB
  have c2 := Under.cons (C := C) U.hA
  have c3 := Under.cons (C := C) U.hN
  refine codeAny_builtinAt F.entry ?_
  unfold Builtin.«BaseException.__new__»
  refine PySem.wpAt_bind ?_
  show PySem.wpAt _ _ _ (stack >>= _) _ _ _
  refine PySem.wpAt_bind (PySem.wpAt_stack fun p below => PySem.wpAt_of_wpAny ?_)
  wp_walk
  refine PySem.wpAt_of_wpAny ?_
  rw [F.owner]
  repeat (first | with_reducible refine wpAny_madeHere_exc F.canon hC ?_ | with_reducible refine wpAny_loadPart_at hC ?_ | (with_reducible refine wpAny_isSubtype_exc hC ?_; first | rw [c1] | rw [c2] | rw [c3]) | wp_step)
  show R _ _
  rw [Heap.size_push]
  exact hq
theorem exc_call (F : ExcBaseFacts B newId initId bmB) (U : Under bm B) {rest : List Value} {fI : Addr} (X : K.In h) (hC : h.get? C = some (excClassObj nm q C N bs bm hdct sn sub ab col dd k0 k1 k2 k3 k5 newId))
    (hi : findIn K (.ref C) "__init__" = some (some (.ref fI))) (hf : typeIn K (.ref fI) = some (.type "function")) (hrest : rest.length ≤ sizeLine)
    (hq : codeAny (model prog w) (A.under (.builtin "type.__call__" ⟨.ref C :: rest, []⟩)) (.call (.ref fI) ⟨.ref (h.objs.size + 1) :: rest, []⟩) (InitBack (h.objs.size + 1) R) ⟨(h.push (tupNew rest)).push (excNew C h.objs.size), g, d, t, os⟩) :
    codeAny (model prog w) A (.call (.ref C) ⟨rest, []⟩) R ⟨h, g, d, t, os⟩ := by
  have f1 := tc_lookup
  have f2 := tc_bind (.ref C)
  have hT : (⟨h, g, d, t, os⟩ : Shared).TypeIs (.ref C) "type" := ⟨_, hC, rfl⟩
  refine codeAny_of_tree ?_
  show wpAny _ _ (callAny (.ref C) _) _ _ _
  repeat (any_goals (first | assumption | with_reducible refine wpAny_loadPart_at hC ?_ | wp_step))
  refine ⟨rfl, ?_⟩
  refine codeAny_call_builtin_at (Code.quiet_builtin _ (by decide +kernel)) entry_typeCall (wpAny_check_type_call_sub hC ?_)
  unfold Builtin.«type.__call__»
  repeat (first | with_reducible refine wpAny_loadPart_at hC ?_ | with_reducible refine wpAny_madeBy_exc hC ?_ | wp_step)
  refine codeAny_call_builtin_code (Code.quiet_builtin _ F.quiet) (exc_check F U hC ?_)
  refine exc_new F U hC ?_ hrest
  show wpAny _ _ _ _ _ _
  have k : ∀ b o, h.get? b = some o → ((h.push (tupNew rest)).push (excNew C h.objs.size)).get? b = some o := fun b o e => Heap.get?_push_of_some _ (Heap.get?_push_of_some _ e)
  have hx : ((h.push (tupNew rest)).push (excNew C h.objs.size)).get? (h.objs.size + 1) = some (excNew C h.objs.size) := by heap_get
  have X1 := X.keeps k
  have hC1 := k _ _ hC
  have i1 := looks_findIn (M := model prog w) X1 hi
  have b1 := bind_fn (M := model prog w) X1 (.ref (h.objs.size + 1)) hf
  have cC : (Value.ref C :: bm).contains (.ref C) = true := by simp
  unfold isInstance
  repeat (first | with_reducible refine wpAny_loadPart_at hx ?_ | (with_reducible refine wpAny_isSubtype_exc hC1 ?_; rw [cC]) | wp_step)
  show wpAny _ _ (isSubtype (.ref C) (.ref C)) _ _ _
  refine wpAny_isSubtype_exc hC1 ?_
  rw [cC]
  simp only [Bool.not_true, Bool.false_eq_true, if_false]
  refine wpAny_bind (wpAny_holding (special_fn X1 (x := h.objs.size + 1) (ox := excNew C h.objs.size) (od := none) (f := fI) ⟨hx, rfl, rfl, trivial⟩ hi hf (wpAny_call (codeAny_mono hq fun r s' z => ?_))))
  rcases r with e | (v | _ | _ | _) <;> first | exact z | exact z.elim | skip
  obtain ⟨rfl, z⟩ := z
  exact wpAny_pure z
end
end Mine
end
section
open PySem PySem.W PyProof.Rows PySem.Calls Builtin Builtin.ObjectAttr
namespace Mine
/-- an exception class of the text's own: what is asked of its part of the heap -/
def excCls (K : Frag) (C : Addr) : Bool := match clsIn K C with
  | some cd => cd.hasDict && !cd.mro.isEmpty && cd.mro.contains (.type "object") && (match cd.mro with
    | [.ref _, .ref _, .type a, .type b, .type c] => a == "Exception" && b == "BaseException" && c == "object"
    | _ => false)
  | none => false
def excCd (cd : ClassData) : Bool := cd.hasDict && !cd.mro.isEmpty && cd.mro.contains (.type "object") && (match cd.mro with
    | [.ref _, .ref _, .type a, .type b, .type c] => a == "Exception" && b == "BaseException" && c == "object"
    | _ => false)
theorem excCls_of {K : Frag} {C : Addr} {cd : ClassData} (hc : clsIn K C = some cd) (h : excCd cd = true) : excCls K C = true := by
  unfold excCls; rw [hc]; exact h
theorem refuse_exc {K : Frag} {C : Addr} {cd : ClassData} (e : excCls K C = true) (hc : clsIn K C = some cd) (self : Value) : refuseLoop self "__setattr__" cd.mro = pure () := by
  unfold excCls at e
  rw [hc] at e
  dsimp only at e
  simp only [Bool.and_eq_true] at e
  obtain ⟨_, e⟩ := e
  split at e
  · rename_i C1 C2 a b c q
    simp only [Bool.and_eq_true, beq_iff_eq] at e
    obtain ⟨⟨rfl, rfl⟩, rfl⟩ := e
    rw [q, refuseLoop_ref, refuseLoop_ref]
    exact PySem.F.store_Exception.passes self
  · cases e
section
variable {prog : Program} {w : World} {A : Around} {E : Value → Shared → Prop} {s : Shared} {K : Frag} {x C dx L : Addr} {h₀ : Heap} {m : Str → Option Value} {pre post news : List (Addr × Obj)} {ox od : Obj} {k : Nat} {mm : Str → Option Value} {name : Str} {v : Value}
theorem exc_open {R : Result → Shared → Prop} {o₁ : Option Obj} {tk : Tok} (X : K.In s.heap) (I : InstAt s.heap x ox C o₁) (hp : excCls K C = true) (ha : findIn K (.ref C) name = some none)
    (h : wpAny (model prog w) A.in1 (storeInOwnDict (.ref x) (.ref C) (.str name tk) name v false)
      (fun fin s' => match fin with | .done f => R (.ok f) s' | .again c' => c'.quiet = true ∧ codeAny (model prog w) A c' R s') (fun e s' => R (.error e) s') s) :
    codeAny (model prog w) A (.call (.builtin "object.__setattr__") ⟨[.ref x, .str name tk, v], []⟩) R s := by
  have SF := PySem.F.store_object
  obtain ⟨cd, hc⟩ : ∃ cd, clsIn K C = some cd := by
    unfold excCls at hp
    cases q : clsIn K C with
    | some cd => exact ⟨cd, rfl⟩
    | none => rw [q] at hp; cases hp
  have hr := refuse_exc hp hc (.ref x)
  have hp' := hp
  unfold excCls at hp'
  rw [hc] at hp'
  simp only [Bool.and_eq_true, Bool.not_eq_true'] at hp'
  obtain ⟨⟨⟨_, ne⟩, ho⟩, _⟩ := hp'
  have sub : Looks (model prog w) s.heap (isInstance (.ref x) (.type "object")) true := I.type.andThen (looks_mroIn X (by unfold mroIn; rw [hc, Option.bind_some, if_neg (by rw [ne]; decide), ho]))
  refine codeAny_call_builtin SF.slot.plain SF.entry (@check_slot (model prog w) _ _ s "object.__setattr__" "object" "__setattr__" (.ref x) [.str name tk, v] [] _ SF.kind SF.split sub (SF.args (.ref x) (.str name tk) v) ?_)
  have hm : Looks (model prog w) s.heap (mroOf (.ref C)) cd.mro := (looks_clsIn X hc).andThen .now
  rw [osa_eq, refuse_eq]
  refine wpAny_bind (wpAny_bind (I.type.here (wpAny_bind (hm.here ?_))))
  rw [hr]
  refine wpAny_pure (wpAny_bind (I.type.here (wpAny_bind ((looks_findIn X ha).here (wpAny_bind ?_)))))
  exact wpAny_pure h
theorem store_in {tk : Tok} {Q : Fin → Shared → Prop} (F : Fr h₀ L s.heap m) (N : News h₀ L s.heap (pre ++ (dx, od) :: post)) (h1 : ∀ p ∈ pre, p.1 ≠ dx) (h2 : ∀ p ∈ post, p.1 ≠ dx) (hA : Attrs k od mm) (hk : k ≤ 900)
    (h : ∀ h' od', Fr h₀ L h' m → News h₀ L h' (pre ++ (dx, od') :: post) → Attrs (k + 1) od' (fun y => if y = name then some v else mm y) → Q (.done (.ret .none)) { s with heap := h', toks := s.toks + 1 }) :
    wpAny (model prog w) A (storeInDict dx (.str name tk) name v) Q E s := by
  obtain ⟨es, n, e, hl, a1, -⟩ := hA.put name (PyData.keyHash w.params name) s.toks v
  have hlk := hA.looks name
  obtain ⟨U1, U2⟩ := news_upd (f := Obj.putName name (PyData.keyHash w.params name) (.str name s.toks) v) F N h1 h2 e rfl
  have D := (N (dx, od) (by simp)).1
  have D' := (U2 (dx, PySem.W.dictOf es n) (by simp)).1
  unfold storeInDict newKeyGuard
  refine wpAny_bind (wpAny_pure (wpAny_bind ?_))
  unfold nsSet
  refine wpAny_bind (wpAny_bind (wpAny_askSetting (wpAny_pure (wpAny_bind (wpAny_mkText (wpAny_bind (wpAny_loadPart D ?_)))))))
  unfold lookIn at hlk
  split at hlk
  · rename_i es₀ n₀ q
    rw [q]
    dsimp only
    have c : (!es₀.any (·.key.isStr name) && es₀.any (·.refKey)) = false := by
      rw [← Array.any_toList, ← Array.any_toList]
      split at hlk
      · rename_i en he
        rw [List.any_eq_true.mpr ⟨en, List.mem_of_find?_eq_some he, List.find?_some he⟩]; rfl
      · split at hlk
        · cases hlk
        · rename_i z; rw [Bool.not_eq_true] at z; rw [z, Bool.and_false]
    rw [aRefKeyMayBeTheName_at, c]
    refine wpAny_updatePart D ?_
    refine wpAny_bind (wpAny_lookBehind D' (by exact pastItsLine_dict (by rw [List.size_toArray, sizeLine_eq]; omega)) ?_)
    exact wpAny_pure (h _ _ U1 U2 a1)
  · cases hlk
theorem exc_hasDict {cd : ClassData} (hp : excCls K C = true) (hc : clsIn K C = some cd) : cd.hasDict = true := by
  unfold excCls at hp
  rw [hc] at hp
  simp only [Bool.and_eq_true] at hp
  exact hp.1.1.1
theorem exc_cls (hp : excCls K C = true) : ∃ cd, clsIn K C = some cd := by
  unfold excCls at hp
  cases q : clsIn K C with
  | some cd => exact ⟨cd, rfl⟩
  | none => rw [q] at hp; cases hp
/-- the first attribute of an exception -/
theorem exc_set0 {g : Obj → List (Addr × Obj)} {vs : Array Value} {Q : Unit → Shared → Prop} (F : Fr h₀ L s.heap m) (X₀ : K.In h₀) (N : News h₀ L s.heap news) (U : UpdF x { cls := .ref C, data := .fields vs } news g)
    (hs : findIn K (.ref C) "__setattr__" = some (some (.builtin "object.__setattr__"))) (hp : excCls K C = true) (ha : findIn K (.ref C) name = some none)
    (h : ∀ h' d od tk, Fr h₀ L h' m → News h₀ L h' ((d, od) :: g { cls := .ref C, dict := some d, data := .fields vs }) → Attrs 1 od (fun y => if y = name then some v else none) → (∀ p ∈ news, p.1 < d) → Q () { s with heap := h', toks := tk }) :
    wpAny (model prog w) A (setAttr (.ref x) name v) Q E s := by
  obtain ⟨pre, post, rfl, hg, a, b⟩ := U.split
  have X := X₀.keeps F.keep
  have hx := (N (x, _) (List.mem_append_right _ (.head _))).1
  have I : InstAt s.heap x { cls := .ref C, data := .fields vs } C none := ⟨hx, rfl, rfl, trivial⟩
  refine set_plain X I hs (exc_open (s := { s with toks := s.toks + 1 }) X I hp ha ?_)
  obtain ⟨cd, hc⟩ := exc_cls hp
  have hd := exc_hasDict hp hc
  refine wpAny_bind (wpAny_pure (wpAny_bind ?_))
  refine wpAny_bind (wpAny_loadPart hx (wpAny_bind (looks_clsIn X hc _ _ _ _ (fun _ _ e => e) ?_)))
  simp only [hd, Bool.not_true, Bool.false_eq_true, if_false]
  rw [if_neg (show ¬ ((false || !typeHasDict (Value.ref C)) = true) from by simp [typeHasDict])]
  have lt : ∀ p ∈ pre ++ (x, ({ cls := .ref C, data := .fields vs } : Obj)) :: post, p.1 < s.heap.objs.size := fun p hp => Heap.lt_size (N p hp).1
  have F1 := F.push emptyDict
  have N1 : News h₀ L (s.heap.push emptyDict) (((s.heap.objs.size, emptyDict) :: pre) ++ (x, ({ cls := .ref C, data := .fields vs } : Obj)) :: post) := N.push F emptyDict
  have hx1 := (N1 (x, _) (List.mem_append_right _ (.head _))).1
  refine wpAny_bind (wpAny_alloc (wpAny_bind (wpAny_update hx1 ?_)))
  obtain ⟨F2, N2⟩ := news_upd (f := fun o => { o with dict := some s.heap.objs.size }) F1 N1 (fun p hp => by
    rcases List.mem_cons.mp hp with rfl | hp
    · exact Nat.ne_of_gt (Heap.lt_size hx)
    · exact a p hp) b rfl rfl
  refine wpAny_pure ?_
  refine store_in (s := ⟨_, s.gens, s.drawn, s.toks + 1, s.os⟩) (pre := []) (post := pre ++ (x, { cls := .ref C, dict := some s.heap.objs.size, data := .fields vs }) :: post) F2 N2 (fun p hp => by cases hp) (fun p hp => ?_) Attrs.nil (by decide) (fun h' od' F3 N3 A3 => ?_)
  · rcases List.mem_append.mp hp with hp | hp
    · exact Nat.ne_of_lt (lt p (List.mem_append_left _ hp))
    · rcases List.mem_cons.mp hp with rfl | hp
      · exact Nat.ne_of_lt (Heap.lt_size hx)
      · exact Nat.ne_of_lt (lt p (List.mem_append_right _ (.tail _ hp)))
  · exact h h' _ od' _ F3 (by rw [hg]; exact N3) A3 lt
/-- a later one -/
theorem exc_set1 {g : Obj → List (Addr × Obj)} {vs : Array Value} {Q : Unit → Shared → Prop} (F : Fr h₀ L s.heap m) (X₀ : K.In h₀) (N : News h₀ L s.heap news) (hm : (x, ({ cls := .ref C, dict := some dx, data := .fields vs } : Obj)) ∈ news) (U : UpdF dx od news g) (hA : Attrs k od mm) (hk : k ≤ 900)
    (hs : findIn K (.ref C) "__setattr__" = some (some (.builtin "object.__setattr__"))) (hp : excCls K C = true) (ha : findIn K (.ref C) name = some none)
    (h : ∀ h' od' tk, Fr h₀ L h' m → News h₀ L h' (g od') → Attrs (k + 1) od' (fun y => if y = name then some v else mm y) → Q () { s with heap := h', toks := tk }) :
    wpAny (model prog w) A (setAttr (.ref x) name v) Q E s := by
  obtain ⟨pre, post, rfl, hg, a, b⟩ := U.split
  have X := X₀.keeps F.keep
  have hx := (N (x, _) hm).1
  have I : InstAt s.heap x { cls := .ref C, dict := some dx, data := .fields vs } C (some od) := ⟨hx, rfl, rfl, (N (dx, od) (List.mem_append_right _ (.head _))).1⟩
  refine set_plain X I hs (exc_open (s := { s with toks := s.toks + 1 }) X I hp ha ?_)
  obtain ⟨cd, hc⟩ := exc_cls hp
  have hd := exc_hasDict hp hc
  refine wpAny_bind (wpAny_pure (wpAny_bind ?_))
  refine wpAny_bind (wpAny_loadPart hx (wpAny_bind (looks_clsIn X hc _ _ _ _ (fun _ _ e => e) ?_)))
  simp only [hd, Bool.not_true, Bool.false_eq_true, if_false]
  refine wpAny_pure ?_
  refine store_in (s := ⟨s.heap, s.gens, s.drawn, s.toks + 1, s.os⟩) F N a b hA hk (fun h' od' F3 N3 A3 => ?_)
  exact h h' od' _ F3 (by rw [hg]; exact N3) A3

theorem exc_mk {nm q : Str} {N' : Addr} {bs bm bmB : List Value} {hdct : Bool} {sn : List Str} {sub : List Value} {ab : Bool} {col : Option Bool} {dd : Option Addr} {k0 k1 k2 k3 k5 : Option Value} {B newId initId : String} {pos : List Value} {fI : Addr} {Q : Value → Shared → Prop}
    (FB : ExcBaseFacts B newId initId bmB) (F : Fr h₀ L s.heap m) (X₀ : K.In h₀) (N : News h₀ L s.heap news) (hC : K.lookup C = some (excClassObj nm q C N' bs bm hdct sn sub ab col dd k0 k1 k2 k3 k5 newId)) (U : Under bm B)
    (hi : findIn K (.ref C) "__init__" = some (some (.ref fI))) (hf : isFn K (.ref fI) = true) (hl : pos.length ≤ sizeLine)
    (h : ∀ e t h', Fr h₀ L h' m → News h₀ L h' ((e, excNew C t) :: (t, tupNew pos) :: news) → (∀ p ∈ news, p.1 < t) → t < e →
      codeAny (model prog w) (A.under (.builtin "type.__call__" ⟨.ref C :: pos, []⟩)) (.call (.ref fI) ⟨.ref e :: pos, []⟩) (InitBack e fun r s' => match r with | .ok (.ret v) => Q v s' | .ok _ => False | .error e => E e s') { s with heap := h' }) :
    wpAny (model prog w) A (call (.ref C) pos) Q E s := by
  have X := X₀.keeps F.keep
  obtain ⟨hh, g, d, t, os⟩ := s
  have N1 := (N.push F (tupNew pos)).push (F.push _) (excNew C hh.objs.size)
  rw [Heap.size_push] at N1
  exact wpAny_call (exc_call FB U X (X _ _ hC) hi (beq_iff_eq.mp hf) hl (h _ hh.objs.size _ ((F.push _).push _) N1 (fun p hp => Heap.lt_size (N p hp).1) (Nat.lt_succ_self _)))
theorem exc_check_init {M : Model} {nm q : Str} {N' e : Addr} {bs bm bmB : List Value} {hdct : Bool} {sn : List Str} {sub : List Value} {ab : Bool} {col : Option Bool} {dd : Option Addr} {k0 k1 k2 k3 k5 : Option Value} {B newId initId : String} {oe : Obj} {rest : List Value} {Q : Unit → Shared → Prop}
    {h : Heap} {g : Array GenState} {d : Drawn} {t : Nat} {os : OsState}
    (FB : ExcBaseFacts B newId initId bmB) (U : Under bm B) (hC : h.get? C = some (excClassObj nm q C N' bs bm hdct sn sub ab col dd k0 k1 k2 k3 k5 newId)) (he : h.get? e = some oe) (hcls : oe.cls = .ref C) (hq : Q () ⟨h, g, d, t, os⟩) :
    wpAny M A (checkBuiltinCall initId ⟨.ref e :: rest, []⟩) Q E ⟨h, g, d, t, os⟩ := by
  have c := Under.cons (C := C) U.hB
  have s := FB.noStar
  simp only [checkBuiltinCall, FB.initKind, FB.initSplit, FB.initRow]
  repeat (first | (with_reducible refine wpAny_loadPart_at he ?_; rw [hcls]) | with_reducible refine wpAny_loadPart_at hC ?_ | (with_reducible refine wpAny_isSubtype_exc hC ?_; rw [c]) | wp_step)
  refine wpAny_onRaise ?_
  rw [show ∀ (a b : String) (n : Nat), Bind.check ⟨.positional, "*", B, .self, [⟨"args", .varPos, false⟩]⟩ a b n (List.map (fun x => x.fst) ({ pos := Value.ref e :: rest } : Args).kw) = pure () from
    fun a b n => check_star_args _ _ _ _ _ _]
  exact wpAny_pure hq
theorem exc_init {nm q : Str} {N' e t : Addr} {bs bm bmB : List Value} {hdct : Bool} {sn : List Str} {sub : List Value} {ab : Bool} {col : Option Bool} {dd : Option Addr} {k0 k1 k2 k3 k5 : Option Value} {B newId initId : String} {a : Value} {g : Obj → List (Addr × Obj)} {Q : Value → Shared → Prop}
    (FB : ExcBaseFacts B newId initId bmB) (F : Fr h₀ L s.heap m) (X₀ : K.In h₀) (N : News h₀ L s.heap news) (U : UpdF e (excNew C t) news g) (hC : K.lookup C = some (excClassObj nm q C N' bs bm hdct sn sub ab col dd k0 k1 k2 k3 k5 newId)) (Un : Under bm B)
    (h : ∀ t' h', Fr h₀ L h' m → News h₀ L h' ((t', tupNew [a]) :: g (excNew C t')) → (∀ p ∈ news, p.1 < t') → Q .none { s with heap := h' }) :
    wpAny (model prog w) A (call (.builtin initId) [.ref e, a]) Q E s := by
  obtain ⟨pre, post, rfl, hg, x1, x2⟩ := U.split
  have X := X₀.keeps F.keep
  have he := (N (e, excNew C t) (List.mem_append_right _ (.head _))).1
  have hC' := X _ _ hC
  obtain ⟨hh, gg, dr, tt, os⟩ := s
  have lt : ∀ p ∈ pre ++ (e, excNew C t) :: post, p.1 < hh.objs.size := fun p hp => Heap.lt_size (N p hp).1
  have F1 := F.push (tupNew [a])
  have N1 : News h₀ L (hh.push (tupNew [a])) (((hh.objs.size, tupNew [a]) :: pre) ++ (e, excNew C t) :: post) := N.push F (tupNew [a])
  obtain ⟨F2, N2⟩ := news_upd (f := Obj.mapFields (·.setIfInBounds 0 (.ref hh.objs.size))) (o' := excNew C hh.objs.size) F1 N1 (fun p hp => by
    rcases List.mem_cons.mp hp with rfl | hp
    · exact Nat.ne_of_gt (lt (e, _) (List.mem_append_right _ (.head _)))
    · exact x1 p hp) x2 rfl rfl
  refine wpAny_call (codeAny_call_builtin FB.init.plain FB.initEntry (exc_check_init FB Un hC' he rfl ?_))
  have he' := (N1 (e, excNew C t) (List.mem_append_right _ (.head _))).1
  wp_walk
  exact h _ _ F2 (by rw [hg]; exact N2) lt
theorem exc_type_meta : typeOf (.type "Exception") = pure (.type "type") := by kernel_rfl
end
end Mine
end
section
open PySem PySem.W PyProof.Rows PySem.Calls Builtin Builtin.ObjectAttr
namespace Mine
/-- a value that may be raised, and what then follows -/
def Throws (E : Value → Shared → Prop) (v : Value) (s₁ : Shared) : Prop :=
  ∃ e C d vs nm q N bs bm hdct sn sub ab col dd k0 k1 k2 k3 k5 newId, v = .ref e ∧ s₁.heap.get? C = some (excClassObj nm q C N bs bm hdct sn sub ab col dd k0 k1 k2 k3 k5 newId) ∧ bm.contains (.type "BaseException") = true ∧
    s₁.heap.get? e = some { cls := .ref C, dict := d, data := .fields vs } ∧ vs[1]? = some .none ∧ E (.ref e) s₁
theorem raise_own {M : Model} {A : Around} {E : Value → Shared → Prop} {s : Shared} {env : Env} {x : Expr} {pos : Pos} {Q : Flow → Shared → Prop} (hh : A.handled = none)
    (h : wpAny M A (eval x env) (Throws E) E s) : wpAny M A (exec (.Raise (some x) none pos) env) Q E s := by
  show wpAny M A (do standAt pos; raiseStmt env (some (do let v ← eval x env; standAt pos; pure v)) none) Q E s
  refine wpAny_bind (wpAny_standAt ?_)
  unfold raiseStmt
  refine wpAny_bind (wpAny_bind (wpAny_mono h (fun v s₁ h₁ => wpAny_bind (wpAny_standAt (wpAny_pure ?_))) fun _ _ x => x))
  obtain ⟨e, C, d, vs, nm, q, N, bs, bm, hdct, sn, sub, ab, col, dd, k0, k1, k2, k3, k5, newId, rfl, hC, hB, he, hv, hE⟩ := h₁
  have c : (Value.ref C :: bm).contains (.type "BaseException") = true := by rw [List.contains_cons, hB, Bool.or_true]
  obtain ⟨hp, g, dr, tk, os⟩ := s₁
  repeat (first | with_reducible refine wpAny_loadPart_at he ?_ | with_reducible refine wpAny_loadPart_at hC ?_ | (with_reducible refine wpAny_isSubtype_exc hC ?_; rw [c]) | wp_step)
  rw [hv]
  refine wpAny_pure ?_
  rw [if_neg (show ¬ ((Value.none != Value.none) = true) from by simp)]
  exact wpAny_pure (wpAny_raiseNew_none hh hE)
theorem Throws.intro {E : Value → Shared → Prop} {s : Shared} {K : Frag} {e C : Addr} {d : Option Addr} {vs : Array Value} {h₀ : Heap} {L : Addr} {m : Str → Option Value} {news : List (Addr × Obj)} {nm q : Str} {N' : Addr} {bs bm : List Value} {hdct : Bool} {sn : List Str} {sub : List Value} {ab : Bool} {col : Option Bool} {dd : Option Addr} {k0 k1 k2 k3 k5 : Option Value} {newId B : String}
    (F : Fr h₀ L s.heap m) (X₀ : K.In h₀) (N : News h₀ L s.heap news) (hm : (e, ({ cls := .ref C, dict := d, data := .fields vs } : Obj)) ∈ news) (hC : K.lookup C = some (excClassObj nm q C N' bs bm hdct sn sub ab col dd k0 k1 k2 k3 k5 newId)) (U : Under bm B) (hv : vs[1]? = some .none)
    (h : E (.ref e) s) : Throws E (.ref e) s :=
  ⟨e, C, d, vs, nm, q, N', bs, bm, hdct, sn, sub, ab, col, dd, k0, k1, k2, k3, k5, newId, rfl, (X₀.keeps F.keep) _ _ hC, U.hE, (N _ hm).1, hv, h⟩
/-- an exception on its way through the frames l -/
def RaisedM (base : Heap) (l : List Env) (e C : Addr) (h : Heap) : Prop := ∃ B a0, base.StaysIn B ∧ Heap.FlyingW B l e (.ref C) a0 h
section
variable {M : Model} {A : Around} {E : Value → Shared → Prop} {s' : Shared} {base g g₂ : Heap} {outer : List Env} {L a e C : Addr} {m : Str → Option Value} {name : Str} {scope : Scope} {cd : Value} {Q : Unit → Shared → Prop} {news : List (Addr × Obj)}
theorem leave_first {d : Option Addr} {vs : Array Value} {a0 : Value} (K : Below A base outer g) (F : Fr g L s'.heap m) (N : News g L s'.heap news) (hm : (e, ({ cls := .ref C, dict := d, data := .fields vs } : Obj)) ∈ news) (h0 : vs[0]? = some a0) (h1 : vs[1]? = some .none)
    (hQ : ∀ h', RaisedM base outer e C h' → g.UpToSlots h' → Q () { s' with heap := h' }) (hk : scope.kind = .function := by rfl) :
    wpAny M (A.deeper (envOf name scope L a cd)) (leaving (envOf name scope L a cd) (.ref e)) Q E s' := by
  have K' := K.push (name := name) (a := a) (cd := cd) F hk
  have he := (N _ hm).1
  have hb : base.get? e = none := fresh_of_stays K.stays (N _ hm).2.2
  have hin : ∀ env ∈ (envOf name scope L a cd :: outer), ∀ b, env.frame = some b → b ∈ e :: (envOf name scope L a cd :: outer).filterMap (·.frame) := fun env h' b hb => .tail _ (List.mem_filterMap.mpr ⟨env, h', hb⟩)
  have st : base.StaysIn (hideAll s'.heap (e :: (envOf name scope L a cd :: outer).filterMap (·.frame))) := fun b o q => hideAll_get _ (K'.stays b o q) fun hm' => by
    rcases List.mem_cons.mp hm' with rfl | hm'
    · rw [hb] at q; cases q
    · rw [(K'.frames.mem hm').1] at q; cases q
  refine wpAny_leaving_firstW (base := hideAll s'.heap (e :: (envOf name scope L a cd :: outer).filterMap (·.frame))) (outer := outer) (a0 := a0) K'.stack (funFrames_hide K'.frames hin) rfl he (fun b o q => of_hideAll _ q) (hideAll_none _ (.head _)) rfl h1 h0 fun h' hL => ?_
  obtain ⟨k1, ⟨_, _, k2⟩, k3, k4⟩ := hL
  exact hQ h' ⟨_, a0, st, k1, hideAll_none _ (.head _), k2, k3⟩ ((Heap.UpToSlots.of_keeps F.keep).trans k4)
theorem leave_on (K : Below A base outer g) (F : Fr g L g₂ m) (R : RaisedM base (envOf name scope L a cd :: outer) e C s'.heap) (hsm : g₂.UpToSlots s'.heap)
    (hQ : ∀ h', RaisedM base outer e C h' → g.UpToSlots h' → Q () { s' with heap := h' }) :
    wpAny M (A.deeper (envOf name scope L a cd)) (leaving (envOf name scope L a cd) (.ref e)) Q E s' := by
  obtain ⟨B, a0, hB, hfl⟩ := R
  exact wpAny_leaves_onW (Around.frames_deeper K.stack) rfl hfl fun h' x1 x2 => hQ h' ⟨B, a0, hB, x1⟩ ((Heap.UpToSlots.of_keeps F.keep).trans (hsm.trans x2))
end
end Mine
namespace Mine
theorem UpdF.of_mem {d : Addr} {o : Obj} : ∀ {news : List (Addr × Obj)}, (d, o) ∈ news → (news.map Prod.fst).Nodup → ∃ g, UpdF d o news g
  | [], h, _ => by cases h
  | p :: r, h, n => by
    rcases List.mem_cons.mp h with rfl | h
    · exact ⟨_, updF_head n⟩
    · obtain ⟨g, u⟩ := UpdF.of_mem h (List.nodup_cons.mp n).2
      exact ⟨_, updF_tail n fun _ => u⟩
end Mine
end
section
open PySem PySem.W PyProof.Rows PySem.Calls
namespace Mine
abbrev PG : Program := PySem.Challenge.rw_rg0009_01.row.prog
abbrev tupObj (r : Addr) (pt : Str) (tpt : Tok) : Obj := ⟨.type "tuple", none, .seq #[.ref r, .str pt tpt] 0, #[]⟩
/-- the operations of a type: none, one that is told, one that is abstract -/
inductive OpsIs (w : World) (oo : Obj) : Bool → Prop
  | none : oo.IsDictOf (strKind PG w) [] → OpsIs w oo false
  | told {t : Tok} : oo.IsDictOf (strKind PG w) [(Str.ofString "f inself", .str (Str.ofString "f.1") t)] → OpsIs w oo false
  | open {t : Tok} : oo.IsDictOf (strKind PG w) [(Str.ofString "f inself", .str (Str.ofString "") t)] → OpsIs w oo true
def tyL (tg ab : Bool) (j : Int) (tj : Tok) (od : Addr) : List (Str × Value) := [("is_tagged", .bool tg), ("is_abstract", .bool ab), ("number", .int j tj), ("operations", .ref od)]
/-- a type stands, and a subtype of it -/
inductive TyAt (w : World) (news : List (Addr × Obj)) (su : Addr) (tg ab bad : Bool) (j : Int) : Prop
  | mk (t dsu : Addr) (osu : Obj) (dt : Addr) (ot : Obj) (od : Addr) (oo : Obj) (tj : Tok) (m1 : (su, instObj 292 dsu) ∈ news) (m2 : (dsu, osu) ∈ news) (a1 : Attrs 2 osu (fun y => if y = "type" then some (.ref t) else none))
    (m3 : (t, instObj 271 dt) ∈ news) (m4 : (dt, ot) ∈ news) (a2 : Attrs 40 ot (at_ (tyL tg ab j tj od))) (m5 : (od, oo) ∈ news) (lo : (od == sysModules) = false) (ops : OpsIs w oo bad) : TyAt w news su tg ab bad j
theorem TyAt.sub {w : World} {news news' : List (Addr × Obj)} {su : Addr} {tg ab bad : Bool} {j : Int} (h : TyAt w news su tg ab bad j) (hs : ∀ p ∈ news, p ∈ news') : TyAt w news' su tg ab bad j := by
  cases h with
  | mk t dsu osu dt ot od oo tj a b c d e f g i k => exact .mk t dsu osu dt ot od oo tj (hs _ a) (hs _ b) c (hs _ d) (hs _ e) f (hs _ g) i k
/-- what an entity is -/
inductive Kind (w : World) (P : Addr → Bool → Prop) (news : List (Addr × Obj)) (ft : Int → Option Value) (r : Addr) : Str → Value → Value → Value → Bool → Bool → Bool → Prop
  | impl {kd : Str} {sv reg full : Value} {compl : Bool} : Kind w P news ft r kd sv reg full compl true true
  | ty {su : Addr} {full reg : Value} {tg ab bad : Bool} {j : Int} {tp : Addr} {pt : Str} {tpt : Tok} (sv : Value) : (sv = .ref su ∧ full = .none ∨ full = .ref su) → handedIn sv = true → handedIn reg = true → TyAt w news su tg ab bad j → ft j = some (.ref tp) → (tp, tupObj r pt tpt) ∈ news →
      Kind w P news ft r "type" sv reg full true false (!tg || ab || !bad)
  | obj {sv reg full : Value} {compl : Bool} : Kind w P news ft r "object" sv reg full compl false compl
  | gen {sv reg full : Value} {compl : Bool} : Kind w P news ft r "generic" sv reg full compl false true
  | pkg {sv full : Value} {r' : Addr} {compl b : Bool} : P r' b → Kind w P news ft r "package" sv (.ref r') full compl false (b || compl)
inductive EntW (w : World) (P : Addr → Bool → Prop) (news : List (Addr × Obj)) (ft : Int → Option Value) (r e : Addr) (b : Bool) : Prop
  | mk (de : Addr) (oe : Obj) (kd : Str) (tk : Tok) (nm : Str) (tn : Tok) (sv : Value) (ln : Int) (tl : Tok) (reg full : Value) (compl impl : Bool) (uq nb pa : Value) (m1 : (e, instObj 77 de) ∈ news) (m2 : (de, oe) ∈ news)
    (a : Attrs 18 oe (at_ (entL kd tk nm tn sv ln tl reg full compl impl (.ref r) uq nb pa))) (k : Kind w P news ft r kd sv reg full compl impl b) : EntW w P news ft r e b
inductive RegW (w : World) (P : List (Addr × Obj) → (Int → Option Value) → Addr → Addr → Bool → Prop) (news : List (Addr × Obj)) (ft : Int → Option Value) (rr r : Addr) (b : Bool) : Prop
  | mk (dr : Addr) (odr : Obj) (kr : Str) (tkr : Tok) (par : Value) (M : Int) (tM : Tok) (nu : Int) (tnu : Tok) (lv : Int) (tlv : Tok) (pt : Str) (tpt : Tok) (rn ro rc rh : Addr) (co : Nat) (es : List (Addr × Bool)) (m1 : (r, instObj 113 dr) ∈ news) (m2 : (dr, odr) ∈ news) (a : Attrs 16 odr (at_ (regL kr tkr par rr M tM nu tnu lv tlv pt tpt rn ro rc rh)))
    (m3 : (ro, PySem.W.listOf (List.toArray (es.map fun p : Addr × Bool => Value.ref p.1)) co) ∈ news) (he : ∀ p ∈ es, EntW w (P news ft rr) news ft r p.1 p.2) (hb : b = es.all (·.2)) : RegW w P news ft rr r b
theorem Kind.sub {w : World} {P P' : Addr → Bool → Prop} {news news' : List (Addr × Obj)} {ft ft' : Int → Option Value} {r : Addr} {kd : Str} {sv reg full : Value} {compl impl b : Bool} (h : Kind w P news ft r kd sv reg full compl impl b)
    (hs : ∀ p ∈ news, p ∈ news') (hf : ∀ j v, ft j = some v → ft' j = some v) (hP : ∀ r b, P r b → P' r b) : Kind w P' news' ft' r kd sv reg full compl impl b := by
  cases h with
  | impl => exact .impl
  | ty sv a hv hr b c d => exact .ty sv a hv hr (b.sub hs) (hf _ _ c) (hs _ d)
  | obj => exact .obj
  | gen => exact .gen
  | pkg h => exact .pkg (hP _ _ h)
theorem EntW.sub {w : World} {P P' : Addr → Bool → Prop} {news news' : List (Addr × Obj)} {ft ft' : Int → Option Value} {r e : Addr} {b : Bool} (h : EntW w P news ft r e b)
    (hs : ∀ p ∈ news, p ∈ news') (hf : ∀ j v, ft j = some v → ft' j = some v) (hP : ∀ r b, P r b → P' r b) : EntW w P' news' ft' r e b := by
  cases h with
  | mk de oe kd tk nm tn sv ln tl reg full compl impl uq nb pa a b' c d => exact .mk de oe kd tk nm tn sv ln tl reg full compl impl uq nb pa (hs _ a) (hs _ b') c (d.sub hs hf hP)
theorem RegW.sub {w : World} {P P' : List (Addr × Obj) → (Int → Option Value) → Addr → Addr → Bool → Prop} {news news' : List (Addr × Obj)} {ft ft' : Int → Option Value} {rr r : Addr} {b : Bool} (h : RegW w P news ft rr r b)
    (hs : ∀ p ∈ news, p ∈ news') (hf : ∀ j v, ft j = some v → ft' j = some v) (hP : ∀ r b, P news ft rr r b → P' news' ft' rr r b) : RegW w P' news' ft' rr r b := by
  cases h with
  | mk dr odr kr tkr par M tM nu tnu lv tlv pt tpt rn ro rc rh co es a b' c d e f => exact .mk dr odr kr tkr par M tM nu tnu lv tlv pt tpt rn ro rc rh co es (hs _ a) (hs _ b') c (hs _ d) (fun p hp => (e p hp).sub hs hf hP) f
def RegN (w : World) : Nat → List (Addr × Obj) → (Int → Option Value) → Addr → Addr → Bool → Prop
  | 0 => RegW w fun _ _ _ _ _ => False
  | n + 1 => RegW w (RegN w n)
theorem RegN.sub {w : World} {news news' : List (Addr × Obj)} {ft ft' : Int → Option Value} (hs : ∀ p ∈ news, p ∈ news') (hf : ∀ j v, ft j = some v → ft' j = some v) {n : Nat} {rr r : Addr} {b : Bool} (h : RegN w n news ft rr r b) : RegN w n news' ft' rr r b := by
  induction n generalizing rr r b with
  | zero => exact RegW.sub h hs hf fun _ _ h => h
  | succ n ih => exact RegW.sub h hs hf fun _ _ h => ih h
end Mine
namespace Mine
theorem flat0 {w : World} {o : Obj} (h : o.IsDictOf (strKind PG w) []) : PyProof.V.FlatPairs PyData.str ([] : List (Str × Value)) [] := .nil
theorem flat1 {w : World} {o : Obj} {k x : Str} {t : Tok} (h : o.IsDictOf (strKind PG w) [(k, .str x t)]) : PyProof.V.FlatPairs PyData.str [(k, Value.str x t)] [(.str k, .str x)] := .cons (PyProof.V.Flat.str _ _) .nil
end Mine
end
section
open PySem PySem.W PyProof.Rows PySem.Calls
namespace Mine
section
variable {prog : Program} {w : World} {A : Around} {E : Value → Shared → Prop} {s : Shared} {env : Env} {h₀ : Heap} {x : Str} {body : List Stmt} {Q : Flow → Shared → Prop}
/-- the end of a turn that leaves the ledger as it was, with a word about the turns so far -/
def TurnI (h₀ : Heap) (L : Addr) (x : Str) (m : Str → Option Value) (need : List (Addr × Obj)) (s₁ : Shared) (I : Prop) (Q : Flow → Shared → Prop) (f : Flow) (s₂ : Shared) : Prop :=
  match f with
  | .ret v => Q (.ret v) s₂
  | .brk => Q .next s₂
  | _ => I ∧ ∃ h' tk m' news', s₂ = { s₁ with heap := h', toks := tk } ∧ Fr h₀ L h' m' ∧ News h₀ L h' news' ∧ (∀ p ∈ need, p ∈ news') ∧ ∀ y, y ≠ x → m' y = m y
theorem TurnI.next {L : Addr} {m m' : Str → Option Value} {need news' : List (Addr × Obj)} {s₁ : Shared} {I : Prop} {h' : Heap} {tk : Nat} (hI : I) (F : Fr h₀ L h' m') (N : News h₀ L h' news') (hn : ∀ p ∈ need, p ∈ news') (hm : ∀ y, y ≠ x → m' y = m y) :
    TurnI h₀ L x m need s₁ I Q .next { s₁ with heap := h', toks := tk } := ⟨hI, h', tk, m', news', rfl, F, N, hn, hm⟩
theorem TurnI.cont {L : Addr} {m m' : Str → Option Value} {need news' : List (Addr × Obj)} {s₁ : Shared} {I : Prop} {h' : Heap} {tk : Nat} (hI : I) (F : Fr h₀ L h' m') (N : News h₀ L h' news') (hn : ∀ p ∈ need, p ∈ news') (hm : ∀ y, y ≠ x → m' y = m y) :
    TurnI h₀ L x m need s₁ I Q .cont { s₁ with heap := h', toks := tk } := ⟨hI, h', tk, m', news', rfl, F, N, hn, hm⟩
theorem iter_ownI {l : Addr} {vs : List Value} {c : Nat} {m₀ : Str → Option Value} {news : List (Addr × Obj)} (J : Nat → Prop)
    (hh : A.handled = none) (F : Fr h₀ env.locals s.heap m₀) (N : News h₀ env.locals s.heap news) (hl : (l, PySem.W.listOf vs.toArray c) ∈ news) (h0 : J 0)
    (turn : ∀ (i : Nat) v h tk own, vs[i]? = some v → J i → Fr h₀ env.locals h (fun y => if y = x then some v else m₀ y) → News h₀ env.locals h (own ++ news) →
      wpAny (model prog w) A (execs body env) (TurnI h₀ env.locals x m₀ (own ++ news) { s with heap := h, toks := tk } (J (i + 1)) Q) E { s with heap := h, toks := tk })
    (done : ∀ m₁ h tk, J vs.length → Fr h₀ env.locals h m₁ → News h₀ env.locals h news → Q .next { s with heap := h, toks := tk }) :
    wpAny (model prog w) A (pyIter (.ref l)) (fun it s₂ => LoopAtV prog w A h₀ env x body Q E it s₂) E s := by
  have hls : s.heap.IsList l vs.toArray := News.isList (d := none) (sl := #[]) N hl
  have hlt : l < s.heap.objs.size := Heap.lt_size (N _ hl).1
  have hne : l ≠ s.heap.objs.size := Nat.ne_of_lt hlt
  refine wpAny_pyIter_list hls ?_
  have W := Walks.list (prog := prog) (w := w) hh s.heap.objs.size l hne vs.toArray
  have hvl : vs.toArray.size = vs.length := by simp
  rw [hvl] at W
  refine ⟨_, _, _, vs.length, _, _, m₀, news, fun i m₁ news₁ => (news₁ = news ∧ ∀ y, y ≠ x → m₁ y = m₀ y) ∧ J i, rfl, W, ?_, ?_, ?_, ⟨⟨_, Heap.get?_push_size _ rfl, rfl, rfl⟩, hls.at fun o e => Heap.get?_push_of_some _ e⟩, F.push _, (fun p hp => ⟨Heap.get?_push_of_some _ (N p hp).1, (N p hp).2⟩), ⟨⟨rfl, fun _ _ => rfl⟩, h0⟩, ?_, ?_⟩
  · intro hm
    rcases List.mem_cons.mp hm with e | hm
    · exact absurd F.ns.lt (e ▸ Nat.lt_irrefl _)
    · exact (N _ hl).2.1 (List.mem_singleton.mp hm).symm
  · intro b hb
    rw [List.mem_singleton.mp hb]
    exact next_is_new F
  · intro p hp hI
    exact absurd (Heap.lt_size (N p hp).1) ((List.mem_singleton.mp hI) ▸ Nat.lt_irrefl _)
  · rintro i v m₁ news₁ s₁ own ⟨hh', tk', rfl⟩ hin hP ⟨⟨rfl, hJ⟩, hJi⟩ hoff hown hown2 hall hst' F₁ N₁
    have e : (fun y => if y = x then some v else m₁ y) = fun y => if y = x then some v else m₀ y := by
      funext y
      by_cases h1 : y = x
      · simp [h1]
      · simp only [if_neg h1]; exact hJ y h1
    rw [e] at F₁
    refine wpAny_mono (turn i v hh' tk' own (by simpa using hP) hJi F₁ N₁) (fun f s₂ p => ?_) fun _ _ e => e
    have fin : ((J (i + 1)) ∧ ∃ h' tk m' news', s₂ = { { s with heap := hh', toks := tk' } with heap := h', toks := tk } ∧ Fr h₀ env.locals h' m' ∧ News h₀ env.locals h' news' ∧ (∀ p ∈ own ++ news₁, p ∈ news') ∧ ∀ y, y ≠ x → m' y = m₀ y) →
        LoopStepU h₀ env.locals [s.heap.objs.size] own (fun m₁ news₂ => (news₂ = news₁ ∧ ∀ y, y ≠ x → m₁ y = m₀ y) ∧ J (i + 1)) { s with heap := hh', toks := tk' } .next s₂ := by
      rintro ⟨hI, h', tk, m', news', e, F', N', hn, hm⟩
      exact ⟨rfl, h', tk, m', news₁, e, F', fun p hp => N' p (hn p hp), hoff, ⟨rfl, hm⟩, hI⟩
    cases f with
    | ret v => exact .ret p
    | brk => exact .brk p
    | next => exact .next (fin p)
    | cont => exact .cont (fin p)
  · rintro h' tk m' news' F' N' _ ⟨⟨rfl, hJ⟩, hJn⟩
    exact done m' h' tk hJn F' N'
end
end Mine
namespace Mine
theorem News.sub2 {h₀ h : Heap} {L : Addr} {q : Addr × Obj} {Y l : List (Addr × Obj)} (N : News h₀ L h (q :: Y)) (hs : ∀ p ∈ l, p ∈ Y) : News h₀ L h l := fun p hp => N p (.tail _ (hs p hp))
end Mine
end
section
open PySem PySem.W PyProof.Rows PySem.Calls
namespace Mine
theorem pull5 {p1 p2 p3 p4 p5 : Addr × Obj} {l0 l1 l2 l3 l4 l5 : List (Addr × Obj)} (P1 : Pull p1 l0 l1) (P2 : Pull p2 l1 l2) (P3 : Pull p3 l2 l3) (P4 : Pull p4 l3 l4) (P5 : Pull p5 l4 l5) : l0.Perm (p1 :: p2 :: p3 :: p4 :: p5 :: l5) :=
  P1.perm.trans ((P2.perm.trans ((P3.perm.trans ((P4.perm.trans (P5.perm.cons _)).cons _)).cons _)).cons _)
theorem News.perm {h₀ h : Heap} {L : Addr} {l l' : List (Addr × Obj)} (N : News h₀ L h l) (p : l.Perm l') : News h₀ L h l' := fun q hq => N q (p.mem_iff.mpr hq)
theorem nd_perm {l l' : List (Addr × Obj)} (n : (l.map Prod.fst).Nodup) (p : l.Perm l') : (l'.map Prod.fst).Nodup := (p.map _).nodup_iff.mp n
/-- the counts of names: at most b, of at most b names -/
def CntS (w : World) (b : Nat) (oc : Obj) : Prop := ∃ f n, Dic (strKind PG w) oc n f ∧ n ≤ b ∧ ∀ x v, f x = some v → ∃ c t, v = Value.int c t ∧ 0 ≤ c ∧ c ≤ b
/-- the names of a region, some of them not yet there -/
def NamS (w : World) (b : Nat) (on : Obj) (fresh : Str → Prop) : Prop := ∃ f n, Dic (strKind PG w) on n f ∧ n ≤ b ∧ ∀ x, fresh x → f x = none
/-- the homes of the types -/
def HomS (w : World) (b : Nat) (k : Int) (ot : Obj) (f : Int → Option Value) : Prop := ∃ n, Dic (intKind PG w) ot n f ∧ n ≤ b ∧ ∀ j, 100 + k < j → f j = none
/-- the root region -/
inductive RootS (b : Nat) (rr rn ro ca ta : Addr) (odrr : Obj) : Prop
  | mk (tk : Tok) (par : Value) (M : Int) (tM : Tok) (nu : Int) (tnu : Tok) (lv : Int) (tlv : Tok) (pt : Str) (tpt : Tok) (a : Attrs 16 odrr (at_ (regL "root" tk par rr M tM nu tnu lv tlv pt tpt rn ro ca ta))) (h0 : 0 ≤ M) (h1 : M ≤ b) : RootS b rr rn ro ca ta odrr
/-- a region below the root -/
def SubR (news : List (Addr × Obj)) (rr r dr : Addr) (odr : Obj) (na oa : Addr) : Prop :=
  (r, instObj 113 dr) ∈ news ∧ (dr, odr) ∈ news ∧ (∃ tkr par M tM nu tnu lv tlv pt tpt rc rh, Attrs 16 odr (at_ (regL "package" tkr (.ref par) rr M tM nu tnu lv tlv pt tpt na oa rc rh))) ∧ ∃ n, Chain news rr n r
theorem SubR.sub {news news' : List (Addr × Obj)} {rr r dr : Addr} {odr : Obj} {na oa : Addr} (h : SubR news rr r dr odr na oa) (hs : ∀ p ∈ news, p ∈ news') : SubR news' rr r dr odr na oa :=
  let ⟨a, b, c, n, d⟩ := h; ⟨hs _ a, hs _ b, c, n, d.sub hs⟩
end Mine
end
section
open PySem PySem.W PyProof.Rows PySem.Calls
namespace Mine
section
variable {prog : Program} {w : World} {A : Around} {E : Value → Shared → Prop} {s : Shared} {L D : Addr} {h₀ : Heap} {news : List (Addr × Obj)}
/-- one of two, by a number that is drawn -/
theorem tup2_at {value slice : PySem.Expr} {a b : Value} {r : Int} {u : Tok} {Q : Value → Shared → Prop} (N : News h₀ L s.heap news) (hm : (D, ({ cls := .type "tuple", data := .seq #[a, b] } : Obj)) ∈ news) (h0 : 0 ≤ r) (h1 : r < 2)
    (hs : ∀ r, subscripted slice false (.ref D) (.int r u) = operate [.ref D, .int r u] (getItem (.ref D) (.int r u)))
    (ha : r = 0 → Q a s) (hb : r = 1 → Q b s) :
    wpAny (model prog w) A (subscriptTail value slice (.ref D) (.int r u)) Q E s := by
  have ht : IsTup s.heap D (List.toArray [a, b]) := ⟨_, (N _ hm).1, rfl, 0, rfl⟩
  obtain rfl | rfl : r = 0 ∨ r = 1 := by omega
  · exact item_tupleT (j := 0) ht (by decide) (by decide) rfl rfl (ha rfl) (hs 0)
  · exact item_tupleT (j := 1) ht (by decide) (by decide) rfl rfl (hb rfl) (hs 1)
end
end Mine
end
section
open PySem PySem.W PyProof.Rows PySem.Calls
namespace Mine
/-- the walk stops here -/
def Stop (P : Prop) : Prop := P
theorem Stop.on {P : Prop} (h : Stop P) : P := h
theorem Stop.off {P : Prop} (h : P) : Stop P := h
/-- a region: the root itself, or one below it -/
def Home (news : List (Addr × Obj)) (rr r rnrr rorr na oa : Addr) : Prop :=
  (r = rr ∧ na = rnrr ∧ oa = rorr) ∨ ∃ dr odr, SubR news rr r dr odr na oa
theorem Home.sub {news news' : List (Addr × Obj)} {rr r rnrr rorr na oa : Addr} (h : Home news rr r rnrr rorr na oa) (hs : ∀ p ∈ news, p ∈ news') : Home news' rr r rnrr rorr na oa :=
  h.imp id fun ⟨dr, odr, s⟩ => ⟨dr, odr, s.sub hs⟩
theorem join_ {α : Type} {M : Model} {A : Around} {T : Sem α} {Q : α → Shared → Prop} {E : Value → Shared → Prop} {s : Shared} (R : α → Shared → Prop) (h : wpAny M A T R E s) (k : ∀ v s', R v s' → Q v s') : wpAny M A T Q E s :=
  wpAny_mono h k fun _ _ e => e
/-- what an object made within an expression leaves: a new instance of class C ahead of the ledger -/
def MadeR (C : Addr) (kk : Nat) (mm : Str → Option Value) (h₀ : Heap) (L : Addr) (m : Str → Option Value) (news : List (Addr × Obj)) (s : Shared) (v : Value) (s' : Shared) : Prop :=
  ∃ t dt ot h' tk, v = .ref t ∧ s' = { s with heap := h', toks := tk } ∧ Fr h₀ L h' m ∧ News h₀ L h' ((t, instObj C dt) :: (dt, ot) :: news) ∧ (((t, instObj C dt) :: (dt, ot) :: news).map Prod.fst).Nodup ∧ Attrs kk ot mm
theorem MadeR.intro {C kk mm h₀ L m news} {s : Shared} {t dt : Addr} {ot : Obj} {h' : Heap} {tk : Nat} (F : Fr h₀ L h' m) (N : News h₀ L h' ((t, instObj C dt) :: (dt, ot) :: news)) (nd : (((t, instObj C dt) :: (dt, ot) :: news).map Prod.fst).Nodup) (a : Attrs kk ot mm) :
    MadeR C kk mm h₀ L m news s (.ref t) { s with heap := h', toks := tk } := ⟨t, dt, ot, h', tk, rfl, rfl, F, N, nd, a⟩
theorem join_made {M : Model} {A : Around} {T : Sem Value} {Q : Value → Shared → Prop} {E : Value → Shared → Prop} {s : Shared} {h₀ : Heap} {L : Addr} {m : Str → Option Value} {news : List (Addr × Obj)} (C : Addr) (kk : Nat) (mm : Str → Option Value)
    (F : Fr h₀ L s.heap m) (N : News h₀ L s.heap news) (h : wpAny M A T (MadeR C kk mm h₀ L m news s) E s)
    (k : ∀ t dt ot h' tk, Fr h₀ L h' m → News h₀ L h' ((t, instObj C dt) :: (dt, ot) :: news) → (((t, instObj C dt) :: (dt, ot) :: news).map Prod.fst).Nodup → Attrs kk ot mm → Q (.ref t) { s with heap := h', toks := tk }) : wpAny M A T Q E s :=
  wpAny_mono h (fun v s' ⟨t, dt, ot, h', tk, e1, e2, a, b, c, d⟩ => by rw [e1, e2]; exact k t dt ot h' tk a b c d) fun _ _ e => e
end Mine
namespace Mine
theorem News.tl {h₀ h : Heap} {L : Addr} {p : Addr × Obj} {l : List (Addr × Obj)} (N : News h₀ L h (p :: l)) : News h₀ L h l := fun q hq => N q (.tail _ hq)
theorem nd_subl {l l' : List (Addr × Obj)} (n : (l.map Prod.fst).Nodup) (s : l'.Sublist l) : (l'.map Prod.fst).Nodup := n.sublist (s.map _)
theorem exec_If_ {M : Model} {A : Around} {Q : Flow → Shared → Prop} {E : Value → Shared → Prop} {s : Shared} {t : Expr} {a b : List Stmt} {p : Pos} {env : Env} (R : Flow → Shared → Prop) (h : wpAny M A (exec (.If t a b p) env) R E s) (k : ∀ s', R .next s' → Q .next s') (hn : ∀ f s', R f s' → f = .next) : wpAny M A (exec (.If t a b p) env) Q E s :=
  wpAny_mono h (fun f s' x => by have := hn f s' x; subst this; exact k s' x) fun _ _ e => e
end Mine
namespace Mine
theorem nd_sub1 {d : Addr} {o : Obj} {l l' : List (Addr × Obj)} (n : (d :: l.map Prod.fst).Nodup) (s : l'.Sublist ((d, o) :: l)) : (l'.map Prod.fst).Nodup := n.sublist (s.map Prod.fst)
theorem nd_sub2 {d e : Addr} {o p : Obj} {l l' : List (Addr × Obj)} (n : (d :: e :: l.map Prod.fst).Nodup) (s : l'.Sublist ((d, o) :: (e, p) :: l)) : (l'.map Prod.fst).Nodup := n.sublist (s.map Prod.fst)
end Mine
namespace Mine
/-- a word that the walk leaves closed -/
def Hold (P : Prop) : Prop := P
end Mine
namespace Mine
theorem nd_of {X : List Addr} {l : List (Addr × Obj)} (n : X.Nodup) (s : (l.map Prod.fst).Sublist X) : (l.map Prod.fst).Nodup := n.sublist s
end Mine
namespace Mine
theorem ldC {M : Model} {A : Around} {E : Value → Shared → Prop} {s : Shared} {name : Str} {scope : Scope} {L a : Addr} {cd : Value} {h₀ : Heap} {m : Str → Option Value} {x : Str} {pos : Pos} {v : Value} {Q : Value → Shared → Prop} (F : Fr h₀ L s.heap m) (hv : m x = some v)
    (hk : scope.kind = .function) (hl : (envOfC name scope L a cd).kindOf x = some .local) (hd : (x == ("__debug__" : Str)) = false) (h : Q v s) :
    wpAny M A (eval (.Name x pos) (envOfC name scope L a cd)) Q E s := wpAny_Name (wpAny_loadName_local hk hl F.ns hv h) hd
end Mine
namespace Mine
inductive PullA (a : Addr) : List Addr → List Addr → Prop
  | head {r} : PullA a (a :: r) r
  | tail {b r r'} : PullA a r r' → PullA a (b :: r) (b :: r')
theorem PullA.perm {a : Addr} : ∀ {l r : List Addr}, PullA a l r → l.Perm (a :: r)
  | _, _, .head => .refl _
  | _, _, .tail h => (h.perm.cons _).trans (.swap ..)
inductive SubP : List Addr → List Addr → Prop
  | refl {l : List Addr} : SubP l l
  | nil {X : List Addr} : SubP [] X
  | drop {l X : List Addr} {x : Addr} (h : SubP l X) : SubP l (x :: X)
  | cons {l X X' : List Addr} {a : Addr} (p : PullA a X X') (h : SubP l X') : SubP (a :: l) X
theorem SubP.nd : ∀ {l X : List Addr}, SubP l X → X.Nodup → l.Nodup ∧ ∀ a ∈ l, a ∈ X
  | _, _, .refl, n => ⟨n, fun _ h => h⟩
  | _, _, .nil, _ => ⟨List.nodup_nil, fun _ h => by cases h⟩
  | _, _, .drop h, n => let ⟨a, b⟩ := h.nd (List.nodup_cons.mp n).2; ⟨a, fun y hy => .tail _ (b y hy)⟩
  | _, _, .cons p h, n => by
    have n' := (p.perm.nodup_iff).mp n
    obtain ⟨x, y⟩ := h.nd (List.nodup_cons.mp n').2
    exact ⟨List.nodup_cons.mpr ⟨fun hm => (List.nodup_cons.mp n').1 (y _ hm), x⟩, fun b hb => p.perm.mem_iff.mpr (by
      rcases List.mem_cons.mp hb with rfl | hb
      · exact .head _
      · exact .tail _ (y b hb))⟩
theorem nd_sp {X : List Addr} {l : List (Addr × Obj)} (n : X.Nodup) (s : SubP (l.map Prod.fst) X) : (l.map Prod.fst).Nodup := (s.nd n).1
end Mine
namespace Mine
theorem HomS.le {w : World} {b : Nat} {k k' : Int} {ot : Obj} {f : Int → Option Value} (h : HomS w b k ot f) (hk : k ≤ k') : HomS w b k' ot f := let ⟨n, a, b, c⟩ := h; ⟨n, a, b, fun j hj => c j (by omega)⟩
end Mine
namespace Mine
theorem SubR.mk' {news : List (Addr × Obj)} {rr r r' dr' na oa : Addr} {odr' : Obj} {n : Nat} {tk tM tn tl tpt : Tok} {M num lev : Int} {pt : Str} {rc rh : Addr} (a : Attrs 16 odr' (at_ (regL "package" tk (.ref r) rr M tM num tn lev tl pt tpt na oa rc rh))) (hc : Chain news rr n r) :
    SubR ((r', instObj 113 dr') :: (dr', odr') :: news) rr r' dr' odr' na oa :=
  ⟨.head _, .tail _ (.head _), ⟨tk, r, M, tM, num, tn, lev, tl, pt, tpt, rc, rh, a⟩, n + 1, ⟨r, tk, M, tM, num, tn, lev, tl, pt, tpt, na, oa, rc, rh, ⟨dr', odr', .head _, .tail _ (.head _), a⟩, hc.sub fun p hp => .tail _ (.tail _ hp)⟩⟩
end Mine
namespace Mine
theorem SubR.mkN {h₀ h : Heap} {L : Addr} {l news : List (Addr × Obj)} {rr r r' dr' na oa : Addr} {odr' : Obj} {n k : Nat} {m : Str → Option Value} {tk tM tn tl tpt : Tok} {M num lev : Int} {pt : Str} {rc rh : Addr} (N : News h₀ L h l) (h1 : (r', instObj 113 dr') ∈ l) (h2 : (dr', odr') ∈ l) (a : Attrs k odr' m) (hk : k ≤ 16)
    (hm : ∀ p ∈ regL "package" tk (.ref r) rr M tM num tn lev tl pt tpt na oa rc rh, m p.1 = some p.2) (hc : Chain news rr n r) :
    SubR ((r', instObj 113 dr') :: (dr', odr') :: news) rr r' dr' odr' na oa := SubR.mk' (Attrs.le (Attrs.pick a hm) hk) hc
theorem RootS.mkN {h₀ h : Heap} {L : Addr} {l : List (Addr × Obj)} {b k : Nat} {rr rn ro ca ta drr : Addr} {odrr : Obj} {m : Str → Option Value} {tk tM tn tl tpt : Tok} {M num lev : Int} {pt : Str} {par : Value} (N : News h₀ L h l) (hr : (rr, instObj 113 drr) ∈ l) (h2 : (drr, odrr) ∈ l) (a : Attrs k odrr m) (hk : k ≤ 16)
    (hm : ∀ p ∈ regL "root" tk par rr M tM num tn lev tl pt tpt rn ro ca ta, m p.1 = some p.2) (h0 : 0 ≤ M) (h1 : M ≤ b) : RootS b rr rn ro ca ta odrr := ⟨_, _, _, _, _, _, _, _, _, _, Attrs.le (Attrs.pick a hm) hk, h0, h1⟩
theorem at_mkN {h₀ h : Heap} {L : Addr} {l : List (Addr × Obj)} {k k' : Nat} {d : Addr} {o : Obj} {m : Str → Option Value} {ps : List (Str × Value)} (N : News h₀ L h l) (h2 : (d, o) ∈ l) (a : Attrs k o m) (hk : k ≤ k') (hm : ∀ p ∈ ps, m p.1 = some p.2) : Attrs k' o (at_ ps) := Attrs.le (Attrs.pick a hm) hk
end Mine
namespace Mine
theorem RootS.le {b b' : Nat} {rr rn ro ca ta : Addr} {o : Obj} (h : RootS b rr rn ro ca ta o) (hb : b ≤ b') : RootS b' rr rn ro ca ta o := let ⟨a1, a2, a3, a4, a5, a6, a7, a8, a9, a10, x, y, z⟩ := h; ⟨a1, a2, a3, a4, a5, a6, a7, a8, a9, a10, x, y, by omega⟩
theorem CntS.le {w : World} {b b' : Nat} {o : Obj} (h : CntS w b o) (hb : b ≤ b') : CntS w b' o := let ⟨f, n, x, y, z⟩ := h; ⟨f, n, x, by omega, fun a v e => let ⟨c, t, p, q, r⟩ := z a v e; ⟨c, t, p, q, by omega⟩⟩
theorem NamS.le {w : World} {b b' : Nat} {o : Obj} {fr fr' : Str → Prop} (h : NamS w b o fr) (hb : b ≤ b') (hf : ∀ x, fr' x → fr x) : NamS w b' o fr' := let ⟨f, n, x, y, z⟩ := h; ⟨f, n, x, by omega, fun a e => z a (hf a e)⟩
theorem HomS.le2 {w : World} {b b' : Nat} {k k' : Int} {ot : Obj} {f : Int → Option Value} (h : HomS w b k ot f) (hb : b ≤ b') (hk : k ≤ k') : HomS w b' k' ot f := let ⟨n, a, c, d⟩ := h; ⟨n, a, by omega, fun j hj => d j (by omega)⟩
/-- the names of a region's entities -/
def nmN (z δ : Int) : Str := (["a0", "b0", "c0", "a1", "b1", "c1", "a2", "b2", "c2"].map Str.ofString).getD (3 * δ + z).toNat (Str.ofString "")
def freshN (δ : Int) (i : Int) (x : Str) : Prop := ∃ j : Int, i ≤ j ∧ j < 3 ∧ x = nmN j δ
theorem three {z : Int} (h0 : 0 ≤ z) (h3 : z < 3) : z = 0 ∨ z = 1 ∨ z = 2 := by omega
theorem nmN_nice {z δ : Int} (h0 : 0 ≤ z) (h3 : z < 3) (d0 : 0 ≤ δ) (d2 : δ < 3) : Nice (nmN z δ) := by
  rcases three h0 h3 with rfl | rfl | rfl <;> rcases three d0 d2 with rfl | rfl | rfl <;> exact ⟨by decide, by decide +kernel⟩
theorem nmN_ne {y z δ : Int} (h0 : 0 ≤ z) (hy : z < y) (h3 : y < 3) (d0 : 0 ≤ δ) (d2 : δ < 3) : nmN y δ ≠ nmN z δ := by
  rcases three h0 (by omega) with rfl | rfl | rfl <;> rcases three (by omega : 0 ≤ y) h3 with rfl | rfl | rfl <;> first | (exfalso; omega) | (rcases three d0 d2 with rfl | rfl | rfl <;> decide)
theorem freshN.next {z δ : Int} (h0 : 0 ≤ z) (d0 : 0 ≤ δ) (d2 : δ < 3) {x : Str} (h : freshN δ (z + 1) x) : freshN δ z x ∧ x ≠ nmN z δ := by
  obtain ⟨j, h1, h2, rfl⟩ := h
  exact ⟨⟨j, by omega, h2, rfl⟩, nmN_ne h0 (by omega) h2 d0 d2⟩
theorem freshN.now {z δ : Int} (h3 : z < 3) : freshN δ z (nmN z δ) := ⟨z, Int.le_refl _, h3, rfl⟩
end Mine
namespace Mine
theorem small3 {r : Int} (h0 : 0 ≤ r) (h3 : r < 3) : Builtin.Range.small 0 (1 + r) 1 = true := by rcases three h0 h3 with rfl | rfl | rfl <;> decide
theorem size3 {r : Int} (h0 : 0 ≤ r) (h3 : r < 3) : Builtin.Range.rangeSize 0 (1 + r) 1 = ((1 + r).toNat : Int) := by rcases three h0 h3 with rfl | rfl | rfl <;> decide
/-- what holds between the turns of a region's filling -/
inductive FillJ (w : World) (P : List (Addr × Obj) → (Int → Option Value) → Addr → Addr → Bool → Prop) (δ : Int) (tδ : Tok) (n : Nat) (ld rr drr ca ta rnrr rorr r na oa : Addr) (k : Int) (b kb bb : Nat) (ft : Int → Option Value) (news : List (Addr × Obj)) (i : Nat) (m : Str → Option Value) (nx : List (Addr × Obj)) : Prop
  | mk (es : List (Addr × Bool)) (ol odrr oc ot on : Obj) (co : Nat) (ext : List (Addr × Obj)) (k' : Int) (b' : Nat) (ft' : Int → Option Value)
    (e : nx = (ld, ol) :: (drr, odrr) :: (ca, oc) :: (ta, ot) :: (na, on) :: (oa, PySem.W.listOf (List.toArray (es.map fun p : Addr × Bool => Value.ref p.1)) co) :: (ext ++ news)) (hl : Lad ol k' n) (rs : RootS b' rr rnrr rorr ca ta odrr) (cn : CntS w b' oc) (hs : HomS w b' k' ot ft') (ns : NamS w b' on (freshN δ i))
    (hm : ∀ j v, ft j = some v → ft' j = some v) (hl2 : es.length ≤ i) (q1 : k + 1 ≤ k') (q2 : k' ≤ k + 1 + ((i * (2 + kb) : Nat) : Int)) (q3 : b ≤ b') (q4 : b' ≤ b + i * (2 + bb)) (he : ∀ p ∈ es, EntW w (P ext ft' rr) ext ft' r p.1 p.2)
    (m1 : m (Str.ofString "is_let") = some (.bool (es.all (·.2)))) (m2 : m (Str.ofString "ladder") = some (.ref ld)) (m3 : m (Str.ofString "region") = some (.ref r)) (m4 : m (Str.ofString "deep") = some (.int δ tδ)) :
    FillJ w P δ tδ n ld rr drr ca ta rnrr rorr r na oa k b kb bb ft news i m nx
theorem perm_mid {α : Type} (H E M R : List α) : (H ++ (E ++ (M ++ R))).Perm (H ++ (M ++ (E ++ R))) := List.Perm.append_left _ (by
  rw [← List.append_assoc, ← List.append_assoc]; exact List.Perm.append_right _ List.perm_append_comm)
theorem News.mid {h₀ h : Heap} {L : Addr} {H E M R : List (Addr × Obj)} (N : News h₀ L h (H ++ (E ++ (M ++ R)))) : News h₀ L h (H ++ (M ++ (E ++ R))) := Mine.News.perm N (perm_mid H E M R)
theorem nd_mid {H E M R : List (Addr × Obj)} (n : ((H ++ (E ++ (M ++ R))).map Prod.fst).Nodup) : ((H ++ (M ++ (E ++ R))).map Prod.fst).Nodup := nd_perm n (perm_mid H E M R)
theorem map_push {es : List (Addr × Bool)} {e : Addr} {v : Bool} : (List.toArray (es.map fun p : Addr × Bool => Value.ref p.1)).push (.ref e) = List.toArray ((es ++ [(e, v)]).map fun p : Addr × Bool => Value.ref p.1) := by simp
theorem all_app {es : List (Addr × Bool)} {e : Addr} {v : Bool} : (es ++ [(e, v)]).all (·.2) = (es.all (·.2) && v) := by simp
end Mine
namespace Mine
theorem nd_spx {X l : List Addr} (n : X.Nodup) (s : SubP l X) : l.Nodup := (s.nd n).1
end Mine
namespace Mine
theorem News.head1 {h₀ h : Heap} {L : Addr} {p : Addr × Obj} {l : List (Addr × Obj)} (N : News h₀ L h (p :: l)) : News h₀ L h [p] := fun q hq => N q (by rw [List.mem_singleton.mp hq]; exact .head _)
theorem nd_one (p : Addr × Obj) : ([p].map Prod.fst).Nodup := by simp
theorem lad_of {ws : List Value} {ns : List Int} {c : Nat} (h : IntsAre ws ([0] ++ ns)) : Lad (PySem.W.listOf ws.toArray c) 0 (ns.length + 1) := ⟨ws, ns, c, rfl, h, rfl⟩
end Mine
namespace Mine
theorem ldE {M : Model} {A : Around} {E : Value → Shared → Prop} {s : Shared} {name : Str} {scope : Scope} {L a : Addr} {cd : Value} {h₀ : Heap} {m : Str → Option Value} {x : Str} {pos : Pos} {v : Value} {Q : Value → Shared → Prop} (F : Fr h₀ L s.heap m) (hv : m x = some v)
    (hk : scope.kind = .function) (hl : (envOf name scope L a cd).kindOf x = some .local) (hd : (x == ("__debug__" : Str)) = false) (h : Q v s) :
    wpAny M A (eval (.Name x pos) (envOf name scope L a cd)) Q E s := ld F hv h hk hl hd
end Mine
namespace Mine
theorem room0 {dp c R : Nat} (h : dp + c < R) : dp < R := Nat.lt_of_le_of_lt (Nat.le_add_right dp c) h
theorem room1 {dp a c R : Nat} (h : dp + c < R) (e : Nat.ble a c = true) : dp + a < R := Nat.lt_of_le_of_lt (Nat.add_le_add_left (Nat.le_of_ble_eq_true e) dp) h
theorem room2 {dp a b c R : Nat} (h : dp + c < R) (e : Nat.ble (a + b) c = true) : dp + a + b < R := by
  rw [Nat.add_assoc]; exact room1 h e
end Mine
end
section
open PySem PySem.W PyProof.Rows PySem.Calls
namespace Mine
section
variable {prog : Program} {w : World} {A₀ : Around} {E : Value → Shared → Prop} {s' : Shared} {h₀ h : Heap} {outer : List Env} {L a e C : Addr} {m : Str → Option Value} {name : Str} {scope : Scope} {cd : Value}
  {b₀ : Stmt} {suite : List Stmt} {pos np : Pos} {rest : List ExceptHandler} {Q : Flow → Shared → Prop} {K : Frag}
  {p : Program} {loose : List Str} {mg mb : Str → Option Value} {x : Str} {nm q : Str} {N' : Addr} {bs bm : List Value} {hdct : Bool} {sn : List Str} {sub : List Value} {ab : Bool} {col : Option Bool} {dd : Option Addr} {k0 k1 k2 k3 k5 : Option Value} {newId : String}
theorem caughtM (B₀ : Below A₀ h₀ outer h₀) (F : Fr h₀ L h m) (hsm : h.UpToSlots s'.heap) (R : RaisedM h₀ (envOf name scope L a cd :: outer) e C s'.heap) (X₀ : K.In h₀) (T : TopRead p loose mg mb h₀)
    (hn : nsIn K mainGlobals x = some (some (.ref C))) (hC : K.lookup C = some (excClassObj nm q C N' bs bm hdct sn sub ab col dd k0 k1 k2 k3 k5 newId)) (hbase : bm.contains (.type "BaseException") = true)
    (k : ∀ h', Fr h₀ L h' m → wpAny (model prog w) ((A₀.deeper (envOf name scope L a cd)).mark (some (.ref e))) (execs (b₀ :: suite) (envOf name scope L a cd)) Q E { s' with heap := h' })
    (hk : scope.kind = .function := by rfl) (hx : (envOf name scope L a cd).kindOf x = some .globalImplicit := by rfl) (hd : (x == ("__debug__" : Str)) = false := by decide)
    (hE : PassesOwnAt (model prog w) ((A₀.deeper (envOf name scope L a cd)).mark (some (.ref e))) (A₀.deeper (envOf name scope L a cd)) (envOf name scope L a cd) E := by passes_own) :
    wpAny (model prog w) (A₀.deeper (envOf name scope L a cd)) (noteFrame (.ref e) (envOf name scope L a cd))
      (fun _ s₂ => wpAny (model prog w) (A₀.deeper (envOf name scope L a cd)) (setFlight (.ref e) none) (fun _ s₃ =>
        wpAny (model prog w) (A₀.deeper (envOf name scope L a cd)) (handleBy (.ref e) (envOf name scope L a cd) (.ExceptHandler (some (.Name x np)) none (b₀ :: suite) pos :: rest)) Q E s₃) E s₂) E s' := by
  obtain ⟨B, a0, hB, hfl⟩ := R
  refine wpAny_looks_onW (Around.frames_deeper B₀.stack) rfl hfl fun h₄ hheld₄ hsm₄ => ?_
  refine wpAny_landsW hheld₄ fun h₅ hheld hsm₅' => ?_
  have hsm₅ := hsm₄.trans hsm₅'
  have hheld' := flyingW_base hB hheld
  have F₅ := F.of_stays hheld'.1 (hsm.trans hsm₅)
  obtain ⟨ob, hob, hobc⟩ := hheld'.there
  refine wpAny_handleBy_cons (codeAny_handlers_test (wpAny_mono (name_K (Q := fun c s₁ => c = .ref C ∧ s₁ = { s' with heap := h₅ }) F₅ X₀ T hn ⟨rfl, rfl⟩ hk hx hd) (fun c s₁ h₁ => ?_) fun _ _ x => x)) (by intro q; cases q)
  obtain ⟨rfl, rfl⟩ := h₁
  refine wpAny_excMatches_sub_self ((X₀.keeps F₅.keep) _ _ hC) hob hobc hbase ?_
  refine codeAny_handlers_suite ?_
  refine lands_againW hheld fun h₆ hfl₆ hsm₆ => ?_
  have hfl₆' := flyingW_base hB hfl₆
  have F₆ := F.of_stays hfl₆'.1 ((hsm.trans hsm₅).trans hsm₆)
  exact wpAny_passesOwnAt hE (k h₆ F₆)
end
end Mine
end
open PySem PySem.W PyProof.Rows
local macro_rules | `(tactic| k_mem) => `(tactic| repeat (first | assumption | exact List.Mem.head _ | apply List.Mem.tail))
local macro_rules | `(tactic| k_updF) => `(tactic| first | assumption | exact Mine.updF_head (by assumption) | (refine' Mine.updF_tail ?nA ?nB; (case nA => assumption); (case nB => intro _; k_updF)))
local macro_rules | `(tactic| k_upd) => `(tactic| first | exact Mine.upd_head (by assumption) | (refine' Mine.upd_tail ?nA ?nB; (case nA => assumption); (case nB => intro _; k_upd)))
local macro_rules | `(tactic| ktr_rel) => `(tactic| (refine Mine.News.sub (by k_asm) ?_; repeat' (first | exact List.forall_mem_nil _ | (refine List.forall_mem_cons.mpr ⟨by k_mem, ?_⟩) | (intro p hp; repeat (first | exact hp | apply List.Mem.tail)))))
local macro_rules | `(tactic| k_steps) => `(tactic| repeat' (first | (k_unfold; (try dsimp only)) | walk1 | (dsimp only; walk1) | (leave1; (try dsimp only)) | fail "no step"))
local macro_rules | `(tactic| walk_at $s:str) => `(tactic| k_extra $s)
section
open PySem PySem.W PyProof.Rows
namespace Mine
theorem ln2 : True := by
  k_with_none
  k_with "ENTER" => (first | (refine' code_def ?zz32xk1 ?zz32xk2 ?zz32xk3 ?zz32xk4 ?zz32xk5 ?zz32xkA ?zz32xkF ?zz32xkK ?zz32xk6 ?zz32xk7 ?zz32xk8 ?zz32xk9 ?zz32xkB ?_ ?zz32xc2 ?zz32xc3 ?zz32xc4 ?zz32xc5; (case zz32xkA => exact rfl); (case zz32xkF => exact rfl); (case zz32xkK => first | exact rfl | assumption); (case zz32xk1 => k_asm); (case zz32xk2 => k_asm); (case zz32xk3 => k_asm); (case zz32xk4 => k_asm); (case zz32xk5 => k_asm); (case zz32xk6 => k_is); (case zz32xk7 => k_is); (case zz32xk8 => ktr_room); (case zz32xk9 => first | exact BindsTo.of_eq (binds := []) rfl | exact BindsTo.of_eq (binds := [(_, _)]) rfl | exact BindsTo.of_eq (binds := [(_, _), (_, _)]) rfl | exact BindsTo.of_eq (binds := [(_, _), (_, _), (_, _)]) rfl | exact BindsTo.of_eq (binds := [(_, _), (_, _), (_, _), (_, _)]) rfl | exact BindsTo.of_eq (binds := [(_, _), (_, _), (_, _), (_, _), (_, _)]) rfl | exact BindsTo.of_eq (binds := [(_, _), (_, _), (_, _), (_, _), (_, _), (_, _)]) rfl | exact BindsTo.of_eq (binds := [(_, _), (_, _), (_, _), (_, _), (_, _), (_, _), (_, _)]) rfl | exact BindsTo.of_eq (binds := [(_, _), (_, _), (_, _), (_, _), (_, _), (_, _), (_, _), (_, _)]) rfl | exact BindsTo.of_eq (binds := [(_, _), (_, _), (_, _), (_, _), (_, _), (_, _), (_, _), (_, _), (_, _)]) rfl | exact BindsTo.of_eq (binds := [(_, _), (_, _), (_, _), (_, _), (_, _), (_, _), (_, _), (_, _), (_, _), (_, _)]) rfl | exact binds_K (by k_in) rfl (by k_is) rfl rfl rfl); (case zz32xc5 => decide); (case zz32xkB => exact locs rfl); (case zz32xc2 => exact rfl); (case zz32xc3 => exact rfl); (case zz32xc4 => exact rfl); k_whole; intro g' L' h' FG' F' N' B' X' T'; (try dsimp only); (try k_fold)) | (refine' code_defC ?zz32xk1 ?zz32xk2 ?zz32xk3 ?zz32xk4 ?zz32xk5 ?zz32xkA ?zz32xkF ?zz32xkK ?zz32xk6 ?zz32xk7 ?zz32xk8 ?zz32xk9 ?zz32xkB ?zz32xkD ?_ ?zz32xc2 ?zz32xc3 ?zz32xc4; (case zz32xkA => exact rfl); (case zz32xkF => exact rfl); (case zz32xkK => first | exact rfl | assumption); (case zz32xk1 => k_asm); (case zz32xk2 => k_asm); (case zz32xk3 => k_asm); (case zz32xk4 => k_asm); (case zz32xk5 => k_asm); (case zz32xk6 => k_is); (case zz32xk7 => k_is); (case zz32xk8 => ktr_room); (case zz32xk9 => first | exact BindsTo.of_eq (binds := []) rfl | exact BindsTo.of_eq (binds := [(_, _)]) rfl | exact BindsTo.of_eq (binds := [(_, _), (_, _)]) rfl | exact BindsTo.of_eq (binds := [(_, _), (_, _), (_, _)]) rfl | exact BindsTo.of_eq (binds := [(_, _), (_, _), (_, _), (_, _)]) rfl | exact BindsTo.of_eq (binds := [(_, _), (_, _), (_, _), (_, _), (_, _)]) rfl | exact BindsTo.of_eq (binds := [(_, _), (_, _), (_, _), (_, _), (_, _), (_, _)]) rfl | exact BindsTo.of_eq (binds := [(_, _), (_, _), (_, _), (_, _), (_, _), (_, _), (_, _)]) rfl | exact BindsTo.of_eq (binds := [(_, _), (_, _), (_, _), (_, _), (_, _), (_, _), (_, _), (_, _)]) rfl | exact BindsTo.of_eq (binds := [(_, _), (_, _), (_, _), (_, _), (_, _), (_, _), (_, _), (_, _), (_, _)]) rfl | exact BindsTo.of_eq (binds := [(_, _), (_, _), (_, _), (_, _), (_, _), (_, _), (_, _), (_, _), (_, _), (_, _)]) rfl | exact binds_K (by k_in) rfl (by k_is) rfl rfl rfl); (case zz32xkB => exact rfl); (case zz32xkD => decide +kernel); (case zz32xc2 => exact rfl); (case zz32xc3 => exact rfl); (case zz32xc4 => exact rfl); k_whole; intro g' L' h' tk' cells' FG' F' N' Y' B' X' T' l1; k_cells Y'; (try simp only [List.cons_append, List.nil_append] at N'); (try dsimp only); (try k_fold)))
  k_with "call ref" => (k_here; k_dflt (refine' mk_inst ?zz25xk1 ?zz25xk2 ?zz25xk3 ?zz25xk4 ?zz25xk5 ?zz25xk6 ?_; (case zz25xk1 => k_asm); (case zz25xk2 => k_asm); (case zz25xk3 => k_asm); (case zz25xk4 => k_is); (case zz25xk5 => k_is); (case zz25xk6 => k_is); k_whole; intro x' d' o' h' F' N' a' l1 l2; (have nd' := nd_cons2 l1 l2 (by assumption)); (try k_sweep); (k_extra "ENTER")))
  k_with "setAttr ref" => (k_here; k_dflt (refine' at_set ?zz26xk1 ?zz26xk2 ?zz26xk3 ?zz26xk4 ?zz26xk5 ?zz26xk6 ?zz26xk7 ?zz26xk8 ?zz26xk9 ?zz26xk10 ?zz26xk11 ?_; (case zz26xk1 => k_asm); (case zz26xk2 => k_asm); (case zz26xk3 => k_asm); (case zz26xk4 => k_mem); (case zz26xk5 => k_updF); (case zz26xk6 => assumption); (case zz26xk7 => k_is); (case zz26xk8 => k_is); (case zz26xk9 => k_is); (case zz26xk10 => k_is); (case zz26xk11 => exact Nat.le_of_ble_eq_true rfl); k_whole; intro h' o' F' N' a'; (try dsimp only at N' a' F'); (try k_sweep)))
  k_with "setAttr ref" => (k_here; k_dflt (refine' at_again ?zz27xk1 ?zz27xk2 ?zz27xk3 ?zz27xk4 ?zz27xk5 ?zz27xk6 ?zz27xk0 ?zz27xk7 ?zz27xk8 ?zz27xk9 ?zz27xk10 ?zz27xk11 ?_; (case zz27xk1 => k_asm); (case zz27xk2 => k_asm); (case zz27xk3 => k_asm); (case zz27xk4 => k_mem); (case zz27xk5 => k_updF); (case zz27xk6 => assumption); (case zz27xk0 => first | exact rfl | assumption); (case zz27xk7 => k_is); (case zz27xk8 => k_is); (case zz27xk9 => k_is); (case zz27xk10 => k_is); (case zz27xk11 => exact Nat.le_of_ble_eq_true rfl); k_whole; intro h' o' F' N' a'; (try dsimp only at N' a' F'); (try k_sweep)))
  k_with "getAttr ref" => (k_here; k_dflt (refine' at_get ?zz28xk1 ?zz28xk2 ?zz28xk3 ?zz28xk4 ?zz28xk5 ?zz28xk6 ?zz28xk7 ?zz28xk8 ?zz28xk9 ?zz28xk10 ?zz28xk11 ?zz28xk12 ?_; (case zz28xk1 => k_asm); (case zz28xk2 => k_asm); (case zz28xk3 => k_asm); (case zz28xk4 => k_mem); (case zz28xk5 => k_mem); (case zz28xk6 => assumption); (case zz28xk7 => first | exact rfl | assumption); (case zz28xk8 => k_is); (case zz28xk9 => k_is); (case zz28xk10 => k_is); (case zz28xk11 => k_is); (case zz28xk12 => k_handed); k_whole))
  k_with "call type:list" => (k_here; (with_reducible show wpAny _ _ (call (Value.type _) [Value.ref _]) _ _ _); (with_unfolding_all refine' list_copyK ?zz29xk1 ?zz29xk2 ?zz29xk3 ?_ ?zz29xz; (case zz29xk1 => k_asm); (case zz29xk2 => k_asm); (case zz29xk3 => exact News.isList (d := none) (sl := #[]) (by k_asm) (by k_mem)); (case zz29xz => size_fits); k_whole); intro D' c' h' F' N' l1; (have nd' := nd_cons l1 (by assumption)); (try k_sweep))
  k_with "compareOp Eq ref ref" => (k_here; (with_reducible show wpAny _ _ (compareOp CmpOp.Eq (Value.ref _) (Value.ref _)) _ _ _); k_dflt (refine' ke_eq_ints (xs := []) (ys := []) ?zz30xa ?zz30xb .nil .nil ?zz30xu ?_; (case zz30xa => exact News.isList (d := none) (sl := #[]) (items := #[]) (by k_asm) (by k_mem)); (case zz30xb => exact News.isList (d := none) (sl := #[]) (items := #[]) (by k_asm) (by k_mem)); (case zz30xu => ktr_units); k_whole))
  trivial


theorem type_c {w : World} {mean : ExcName → Option Value} {mg mb : Str → Option Value}
    {dp un : Nat} {gd : Option (List Code)} {cn : Str} {cs : Scope} {a : Addr} {ccd : Value} {cl : List (Str × Addr)} {outer : List Env} {A₀ : Around} {base h₀ : Heap} {L : Addr} {m : Str → Option Value} {news : List (Addr × Obj)} {s : Shared}
    {Q E : Value → Shared → Prop} {x y : Str} {tx ty : Tok}
    (B : Below A₀ base outer h₀) (F : Fr h₀ L s.heap m) (KX : (Mine.K w.params).In h₀) (T : Top Mine.q0 (looseW Mine.q0 [Str.ofString "Limits"]) mean mg mb h₀) (hk : cs.kind = .function) (N : News h₀ L s.heap news) (nd : (news.map Prod.fst).Nodup) (hd : dp + 10 < recursionLimit) (hu : un + 500 < cLine)
    (hret : ∀ r dr od h' tks, Fr h₀ L h' m → News h₀ L h' ((r, instObj 271 dr) :: (dr, od) :: news) → (r :: dr :: news.map Prod.fst).Nodup → Attrs 24 od (fun _ => none) → Q (.ref r) { s with heap := h', toks := tks }) :
    wpAny (model PySem.Challenge.rw_rg0009_01.row.prog w) (ktrTop dp un gd cn cs L a ccd cl outer) (call (.ref 271) [.str x tx, .str y ty]) Q E s := by
  (try w_top off); revert KX; k_fill; intro KX
  k_steps
  all_goals exact hret _ _ _ _ _ (by k_asm) (by ktr_rel) (by assumption) (Attrs.anon (by assumption))

theorem ln3 : True := by
  k_with "call ref" => (k_here; (with_reducible show wpAny _ _ (call (Value.ref 271) _ _) _ _ _); k_dflt (refine' type_c ?zz31xB ?zz31xF ?zz31xKX ?zz31xT ?zz31xhk ?zz31xN ?zz31xnd ?zz31xhd ?zz31xhu ?_; (case zz31xB => k_asm); (case zz31xF => k_asm); (case zz31xKX => k_asm); (case zz31xT => k_asm); (case zz31xhk => first | exact rfl | assumption); (case zz31xN => k_asm); (case zz31xnd => assumption); (case zz31xhd => ktr_room); (case zz31xhu => ktr_units); k_whole; intro r' dr' od' h' tk' F' N' nd' a'; (try dsimp only at *); (try k_sweep)))
  trivial



theorem rec_c {w : World} {mean : ExcName → Option Value} {mg mb : Str → Option Value}
    {dp un : Nat} {gd : Option (List Code)} {cn : Str} {cs : Scope} {a : Addr} {ccd : Value} {cl : List (Str × Addr)} {outer : List Env} {A₀ : Around} {base h₀ : Heap} {L : Addr} {m : Str → Option Value} {news : List (Addr × Obj)} {s : Shared}
    {Q E : Value → Shared → Prop} {y : Str} {ty : Tok} {l1 l2 : Addr} {c1 c2 : Nat} (m1 : (l1, PySem.W.listOf #[] c1) ∈ news) (m2 : (l2, PySem.W.listOf #[] c2) ∈ news)
    (B : Below A₀ base outer h₀) (F : Fr h₀ L s.heap m) (KX : (Mine.K w.params).In h₀) (T : Top Mine.q0 (looseW Mine.q0 [Str.ofString "Limits"]) mean mg mb h₀) (hk : cs.kind = .function) (N : News h₀ L s.heap news) (nd : (news.map Prod.fst).Nodup) (hd : dp + 20 < recursionLimit) (hu : un + 600 < cLine)
    (hret : ∀ r dr od h' tks, Fr h₀ L h' m → News h₀ L h' ((r, instObj 271 dr) :: (dr, od) :: news) → (r :: dr :: news.map Prod.fst).Nodup → Attrs 28 od (fun _ => none) → Q (.ref r) { s with heap := h', toks := tks }) :
    wpAny (model PySem.Challenge.rw_rg0009_01.row.prog w) (ktrTop dp un gd cn cs L a ccd cl outer) (call (.ref 303) [.str y ty, .ref l1, .ref l2, .none]) Q E s := by
  (try w_top off); revert KX; k_fill; intro KX
  refine wpAny_call ?_
  (k_extra "ENTER")
  k_steps
  all_goals exact hret _ _ _ _ _ (by k_asm) (by ktr_rel) (by assumption) (Attrs.anon (by assumption))

end Mine
end
section
open PySem PySem.W PyProof.Rows
namespace Mine
theorem ln4 : True := by
  k_with_none
  k_with "ENTER" => (first | (refine' code_def ?zz39xk1 ?zz39xk2 ?zz39xk3 ?zz39xk4 ?zz39xk5 ?zz39xkA ?zz39xkF ?zz39xkK ?zz39xk6 ?zz39xk7 ?zz39xk8 ?zz39xk9 ?zz39xkB ?_ ?zz39xc2 ?zz39xc3 ?zz39xc4 ?zz39xc5; (case zz39xkA => exact rfl); (case zz39xkF => exact rfl); (case zz39xkK => first | exact rfl | assumption); (case zz39xk1 => k_asm); (case zz39xk2 => k_asm); (case zz39xk3 => k_asm); (case zz39xk4 => k_asm); (case zz39xk5 => k_asm); (case zz39xk6 => k_is); (case zz39xk7 => k_is); (case zz39xk8 => ktr_room); (case zz39xk9 => first | exact BindsTo.of_eq (binds := []) rfl | exact BindsTo.of_eq (binds := [(_, _)]) rfl | exact BindsTo.of_eq (binds := [(_, _), (_, _)]) rfl | exact BindsTo.of_eq (binds := [(_, _), (_, _), (_, _)]) rfl | exact BindsTo.of_eq (binds := [(_, _), (_, _), (_, _), (_, _)]) rfl | exact BindsTo.of_eq (binds := [(_, _), (_, _), (_, _), (_, _), (_, _)]) rfl | exact BindsTo.of_eq (binds := [(_, _), (_, _), (_, _), (_, _), (_, _), (_, _)]) rfl | exact BindsTo.of_eq (binds := [(_, _), (_, _), (_, _), (_, _), (_, _), (_, _), (_, _)]) rfl | exact BindsTo.of_eq (binds := [(_, _), (_, _), (_, _), (_, _), (_, _), (_, _), (_, _), (_, _)]) rfl | exact BindsTo.of_eq (binds := [(_, _), (_, _), (_, _), (_, _), (_, _), (_, _), (_, _), (_, _), (_, _)]) rfl | exact BindsTo.of_eq (binds := [(_, _), (_, _), (_, _), (_, _), (_, _), (_, _), (_, _), (_, _), (_, _), (_, _)]) rfl | exact binds_K (by k_in) rfl (by k_is) rfl rfl rfl); (case zz39xc5 => decide); (case zz39xkB => exact locs rfl); (case zz39xc2 => exact rfl); (case zz39xc3 => exact rfl); (case zz39xc4 => exact rfl); k_whole; intro g' L' h' FG' F' N' B' X' T'; (try dsimp only); (try k_fold)) | (refine' code_defC ?zz39xk1 ?zz39xk2 ?zz39xk3 ?zz39xk4 ?zz39xk5 ?zz39xkA ?zz39xkF ?zz39xkK ?zz39xk6 ?zz39xk7 ?zz39xk8 ?zz39xk9 ?zz39xkB ?zz39xkD ?_ ?zz39xc2 ?zz39xc3 ?zz39xc4; (case zz39xkA => exact rfl); (case zz39xkF => exact rfl); (case zz39xkK => first | exact rfl | assumption); (case zz39xk1 => k_asm); (case zz39xk2 => k_asm); (case zz39xk3 => k_asm); (case zz39xk4 => k_asm); (case zz39xk5 => k_asm); (case zz39xk6 => k_is); (case zz39xk7 => k_is); (case zz39xk8 => ktr_room); (case zz39xk9 => first | exact BindsTo.of_eq (binds := []) rfl | exact BindsTo.of_eq (binds := [(_, _)]) rfl | exact BindsTo.of_eq (binds := [(_, _), (_, _)]) rfl | exact BindsTo.of_eq (binds := [(_, _), (_, _), (_, _)]) rfl | exact BindsTo.of_eq (binds := [(_, _), (_, _), (_, _), (_, _)]) rfl | exact BindsTo.of_eq (binds := [(_, _), (_, _), (_, _), (_, _), (_, _)]) rfl | exact BindsTo.of_eq (binds := [(_, _), (_, _), (_, _), (_, _), (_, _), (_, _)]) rfl | exact BindsTo.of_eq (binds := [(_, _), (_, _), (_, _), (_, _), (_, _), (_, _), (_, _)]) rfl | exact BindsTo.of_eq (binds := [(_, _), (_, _), (_, _), (_, _), (_, _), (_, _), (_, _), (_, _)]) rfl | exact BindsTo.of_eq (binds := [(_, _), (_, _), (_, _), (_, _), (_, _), (_, _), (_, _), (_, _), (_, _)]) rfl | exact BindsTo.of_eq (binds := [(_, _), (_, _), (_, _), (_, _), (_, _), (_, _), (_, _), (_, _), (_, _), (_, _)]) rfl | exact binds_K (by k_in) rfl (by k_is) rfl rfl rfl); (case zz39xkB => exact rfl); (case zz39xkD => decide +kernel); (case zz39xc2 => exact rfl); (case zz39xc3 => exact rfl); (case zz39xc4 => exact rfl); k_whole; intro g' L' h' tk' cells' FG' F' N' Y' B' X' T' l1; k_cells Y'; (try simp only [List.cons_append, List.nil_append] at N'); (try dsimp only); (try k_fold)))
  k_with "call ref" => (k_here; k_dflt (refine' mk_inst ?zz33xk1 ?zz33xk2 ?zz33xk3 ?zz33xk4 ?zz33xk5 ?zz33xk6 ?_; (case zz33xk1 => k_asm); (case zz33xk2 => k_asm); (case zz33xk3 => k_asm); (case zz33xk4 => k_is); (case zz33xk5 => k_is); (case zz33xk6 => k_is); k_whole; intro x' d' o' h' F' N' a' l1 l2; (have nd' := nd_cons2 l1 l2 (by assumption)); (try k_sweep); (k_extra "ENTER")))
  k_with "setAttr ref" => (k_here; k_dflt (refine' at_set ?zz34xk1 ?zz34xk2 ?zz34xk3 ?zz34xk4 ?zz34xk5 ?zz34xk6 ?zz34xk7 ?zz34xk8 ?zz34xk9 ?zz34xk10 ?zz34xk11 ?_; (case zz34xk1 => k_asm); (case zz34xk2 => k_asm); (case zz34xk3 => k_asm); (case zz34xk4 => k_mem); (case zz34xk5 => k_updF); (case zz34xk6 => assumption); (case zz34xk7 => k_is); (case zz34xk8 => k_is); (case zz34xk9 => k_is); (case zz34xk10 => k_is); (case zz34xk11 => exact Nat.le_of_ble_eq_true rfl); k_whole; intro h' o' F' N' a'; (try dsimp only at N' a' F'); (try k_sweep)))
  k_with "setAttr ref" => (k_here; k_dflt (refine' at_again ?zz35xk1 ?zz35xk2 ?zz35xk3 ?zz35xk4 ?zz35xk5 ?zz35xk6 ?zz35xk0 ?zz35xk7 ?zz35xk8 ?zz35xk9 ?zz35xk10 ?zz35xk11 ?_; (case zz35xk1 => k_asm); (case zz35xk2 => k_asm); (case zz35xk3 => k_asm); (case zz35xk4 => k_mem); (case zz35xk5 => k_updF); (case zz35xk6 => assumption); (case zz35xk0 => first | exact rfl | assumption); (case zz35xk7 => k_is); (case zz35xk8 => k_is); (case zz35xk9 => k_is); (case zz35xk10 => k_is); (case zz35xk11 => exact Nat.le_of_ble_eq_true rfl); k_whole; intro h' o' F' N' a'; (try dsimp only at N' a' F'); (try k_sweep)))
  k_with "getAttr ref" => (k_here; k_dflt (refine' at_get ?zz36xk1 ?zz36xk2 ?zz36xk3 ?zz36xk4 ?zz36xk5 ?zz36xk6 ?zz36xk7 ?zz36xk8 ?zz36xk9 ?zz36xk10 ?zz36xk11 ?zz36xk12 ?_; (case zz36xk1 => k_asm); (case zz36xk2 => k_asm); (case zz36xk3 => k_asm); (case zz36xk4 => k_mem); (case zz36xk5 => k_mem); (case zz36xk6 => assumption); (case zz36xk7 => first | exact rfl | assumption); (case zz36xk8 => k_is); (case zz36xk9 => k_is); (case zz36xk10 => k_is); (case zz36xk11 => k_is); (case zz36xk12 => k_handed); k_whole))
  k_with "call type:list" => (k_here; (with_reducible show wpAny _ _ (call (Value.type _) [Value.ref _]) _ _ _); (with_unfolding_all refine' list_copyK ?zz37xk1 ?zz37xk2 ?zz37xk3 ?_ ?zz37xz; (case zz37xk1 => k_asm); (case zz37xk2 => k_asm); (case zz37xk3 => exact News.isList (d := none) (sl := #[]) (by k_asm) (by k_mem)); (case zz37xz => size_fits); k_whole); intro D' c' h' F' N' l1; (have nd' := nd_cons l1 (by assumption)); (try k_sweep))
  k_with "compareOp Eq ref ref" => (k_here; (with_reducible show wpAny _ _ (compareOp CmpOp.Eq (Value.ref _) (Value.ref _)) _ _ _); k_dflt (refine' ke_eq_ints (xs := []) (ys := []) ?zz38xa ?zz38xb .nil .nil ?zz38xu ?_; (case zz38xa => exact News.isList (d := none) (sl := #[]) (items := #[]) (by k_asm) (by k_mem)); (case zz38xb => exact News.isList (d := none) (sl := #[]) (items := #[]) (by k_asm) (by k_mem)); (case zz38xu => ktr_units); k_whole))
  trivial



theorem sub_c {w : World} {mean : ExcName → Option Value} {mg mb : Str → Option Value}
    {dp un : Nat} {gd : Option (List Code)} {cn : Str} {cs : Scope} {a : Addr} {ccd : Value} {cl : List (Str × Addr)} {outer : List Env} {A₀ : Around} {base h₀ : Heap} {L : Addr} {m : Str → Option Value} {news : List (Addr × Obj)} {s : Shared}
    {Q E : Value → Shared → Prop} {x : Value}
    (B : Below A₀ base outer h₀) (F : Fr h₀ L s.heap m) (KX : (Mine.K w.params).In h₀) (T : Top Mine.q0 (looseW Mine.q0 [Str.ofString "Limits"]) mean mg mb h₀) (hk : cs.kind = .function) (N : News h₀ L s.heap news) (nd : (news.map Prod.fst).Nodup) (hd : dp + 10 < recursionLimit) (hu : un + 500 < cLine)
    (hret : ∀ r dr od h' tks, Fr h₀ L h' m → News h₀ L h' ((r, instObj 292 dr) :: (dr, od) :: news) → (r :: dr :: news.map Prod.fst).Nodup → Attrs 2 od (fun y => if y = "type" then some x else none) → Q (.ref r) { s with heap := h', toks := tks }) :
    wpAny (model PySem.Challenge.rw_rg0009_01.row.prog w) (ktrTop dp un gd cn cs L a ccd cl outer) (call (.ref 310) [x]) Q E s := by
  (try w_top off); revert KX; k_fill; intro KX
  refine wpAny_call ?_
  (k_extra "ENTER")
  k_steps
  all_goals exact hret _ _ _ _ _ (by k_asm) (by ktr_rel) (by assumption) (Attrs.sub (by assumption) (fun y v e => by
    by_cases hy : y = "type"
    · subst hy; exact e
    · rw [if_neg hy] at e; cases e))

theorem ent_c {w : World} {mean : ExcName → Option Value} {mg mb : Str → Option Value}
    {dp un : Nat} {gd : Option (List Code)} {cn : Str} {cs : Scope} {a : Addr} {ccd : Value} {cl : List (Str × Addr)} {outer : List Env} {A₀ : Around} {base h₀ : Heap} {L : Addr} {m : Str → Option Value} {news : List (Addr × Obj)} {s : Shared}
    {Q E : Value → Shared → Prop} {kd nm : Str} {tk tn tl : Tok} {sv : Value} {ln : Int}
    (B : Below A₀ base outer h₀) (F : Fr h₀ L s.heap m) (KX : (Mine.K w.params).In h₀) (T : Top Mine.q0 (looseW Mine.q0 [Str.ofString "Limits"]) mean mg mb h₀) (hk : cs.kind = .function) (N : News h₀ L s.heap news) (nd : (news.map Prod.fst).Nodup) (hd : dp + 10 < recursionLimit) (hu : un + 500 < cLine)
    (hret : ∀ r dr od uq nb pa h' tks, Fr h₀ L h' m → News h₀ L h' ((r, instObj 77 dr) :: (dr, od) :: news) → (r :: dr :: news.map Prod.fst).Nodup → Attrs 17 od (at_ (entL kd tk nm tn sv ln tl .none .none false false .none uq nb pa)) → Q (.ref r) { s with heap := h', toks := tks }) :
    wpAny (model PySem.Challenge.rw_rg0009_01.row.prog w) (ktrTop dp un gd cn cs L a ccd cl outer) (call (.ref 77) [.str kd tk, .str nm tn, .none, sv, .none, .int ln tl]) Q E s := by
  (try w_top off); revert KX; k_fill; intro KX
  k_steps
  all_goals exact hret _ _ _ _ _ _ _ _ (by k_asm) (by ktr_rel) (by assumption) (by refine Attrs.pick (by assumption) ?_; repeat' (first | exact List.forall_mem_nil _ | refine List.forall_mem_cons.mpr ⟨rfl, ?_⟩))

end Mine
end
section
open PySem PySem.W PyProof.Rows
namespace Mine
theorem ln5 : True := by
  k_with_none
  k_with "ENTER" => (first | (refine' code_def ?zz50xk1 ?zz50xk2 ?zz50xk3 ?zz50xk4 ?zz50xk5 ?zz50xkA ?zz50xkF ?zz50xkK ?zz50xk6 ?zz50xk7 ?zz50xk8 ?zz50xk9 ?zz50xkB ?_ ?zz50xc2 ?zz50xc3 ?zz50xc4 ?zz50xc5; (case zz50xkA => exact rfl); (case zz50xkF => exact rfl); (case zz50xkK => first | exact rfl | assumption); (case zz50xk1 => k_asm); (case zz50xk2 => k_asm); (case zz50xk3 => k_asm); (case zz50xk4 => k_asm); (case zz50xk5 => k_asm); (case zz50xk6 => k_is); (case zz50xk7 => k_is); (case zz50xk8 => ktr_room); (case zz50xk9 => first | exact BindsTo.of_eq (binds := []) rfl | exact BindsTo.of_eq (binds := [(_, _)]) rfl | exact BindsTo.of_eq (binds := [(_, _), (_, _)]) rfl | exact BindsTo.of_eq (binds := [(_, _), (_, _), (_, _)]) rfl | exact BindsTo.of_eq (binds := [(_, _), (_, _), (_, _), (_, _)]) rfl | exact BindsTo.of_eq (binds := [(_, _), (_, _), (_, _), (_, _), (_, _)]) rfl | exact BindsTo.of_eq (binds := [(_, _), (_, _), (_, _), (_, _), (_, _), (_, _)]) rfl | exact BindsTo.of_eq (binds := [(_, _), (_, _), (_, _), (_, _), (_, _), (_, _), (_, _)]) rfl | exact BindsTo.of_eq (binds := [(_, _), (_, _), (_, _), (_, _), (_, _), (_, _), (_, _), (_, _)]) rfl | exact BindsTo.of_eq (binds := [(_, _), (_, _), (_, _), (_, _), (_, _), (_, _), (_, _), (_, _), (_, _)]) rfl | exact BindsTo.of_eq (binds := [(_, _), (_, _), (_, _), (_, _), (_, _), (_, _), (_, _), (_, _), (_, _), (_, _)]) rfl | exact binds_K (by k_in) rfl (by k_is) rfl rfl rfl); (case zz50xc5 => decide); (case zz50xkB => exact locs rfl); (case zz50xc2 => exact rfl); (case zz50xc3 => exact rfl); (case zz50xc4 => exact rfl); k_whole; intro g' L' h' FG' F' N' B' X' T'; (try dsimp only); (try k_fold)) | (refine' code_defC ?zz50xk1 ?zz50xk2 ?zz50xk3 ?zz50xk4 ?zz50xk5 ?zz50xkA ?zz50xkF ?zz50xkK ?zz50xk6 ?zz50xk7 ?zz50xk8 ?zz50xk9 ?zz50xkB ?zz50xkD ?_ ?zz50xc2 ?zz50xc3 ?zz50xc4; (case zz50xkA => exact rfl); (case zz50xkF => exact rfl); (case zz50xkK => first | exact rfl | assumption); (case zz50xk1 => k_asm); (case zz50xk2 => k_asm); (case zz50xk3 => k_asm); (case zz50xk4 => k_asm); (case zz50xk5 => k_asm); (case zz50xk6 => k_is); (case zz50xk7 => k_is); (case zz50xk8 => ktr_room); (case zz50xk9 => first | exact BindsTo.of_eq (binds := []) rfl | exact BindsTo.of_eq (binds := [(_, _)]) rfl | exact BindsTo.of_eq (binds := [(_, _), (_, _)]) rfl | exact BindsTo.of_eq (binds := [(_, _), (_, _), (_, _)]) rfl | exact BindsTo.of_eq (binds := [(_, _), (_, _), (_, _), (_, _)]) rfl | exact BindsTo.of_eq (binds := [(_, _), (_, _), (_, _), (_, _), (_, _)]) rfl | exact BindsTo.of_eq (binds := [(_, _), (_, _), (_, _), (_, _), (_, _), (_, _)]) rfl | exact BindsTo.of_eq (binds := [(_, _), (_, _), (_, _), (_, _), (_, _), (_, _), (_, _)]) rfl | exact BindsTo.of_eq (binds := [(_, _), (_, _), (_, _), (_, _), (_, _), (_, _), (_, _), (_, _)]) rfl | exact BindsTo.of_eq (binds := [(_, _), (_, _), (_, _), (_, _), (_, _), (_, _), (_, _), (_, _), (_, _)]) rfl | exact BindsTo.of_eq (binds := [(_, _), (_, _), (_, _), (_, _), (_, _), (_, _), (_, _), (_, _), (_, _), (_, _)]) rfl | exact binds_K (by k_in) rfl (by k_is) rfl rfl rfl); (case zz50xkB => exact rfl); (case zz50xkD => decide +kernel); (case zz50xc2 => exact rfl); (case zz50xc3 => exact rfl); (case zz50xc4 => exact rfl); k_whole; intro g' L' h' tk' cells' FG' F' N' Y' B' X' T' l1; k_cells Y'; (try simp only [List.cons_append, List.nil_append] at N'); (try dsimp only); (try k_fold)))
  k_with "call ref" => (k_here; k_dflt (refine' mk_inst ?zz40xk1 ?zz40xk2 ?zz40xk3 ?zz40xk4 ?zz40xk5 ?zz40xk6 ?_; (case zz40xk1 => k_asm); (case zz40xk2 => k_asm); (case zz40xk3 => k_asm); (case zz40xk4 => k_is); (case zz40xk5 => k_is); (case zz40xk6 => k_is); k_whole; intro x' d' o' h' F' N' a' l1 l2; (have nd' := nd_cons2 l1 l2 (by assumption)); (try k_sweep); (k_extra "ENTER")))
  k_with "setAttr ref" => (k_here; k_dflt (refine' at_set ?zz41xk1 ?zz41xk2 ?zz41xk3 ?zz41xk4 ?zz41xk5 ?zz41xk6 ?zz41xk7 ?zz41xk8 ?zz41xk9 ?zz41xk10 ?zz41xk11 ?_; (case zz41xk1 => k_asm); (case zz41xk2 => k_asm); (case zz41xk3 => k_asm); (case zz41xk4 => k_mem); (case zz41xk5 => k_updF); (case zz41xk6 => assumption); (case zz41xk7 => k_is); (case zz41xk8 => k_is); (case zz41xk9 => k_is); (case zz41xk10 => k_is); (case zz41xk11 => exact Nat.le_of_ble_eq_true rfl); k_whole; intro h' o' F' N' a'; (try dsimp only at N' a' F'); (try k_sweep)))
  k_with "setAttr ref" => (k_here; k_dflt (refine' at_again ?zz42xk1 ?zz42xk2 ?zz42xk3 ?zz42xk4 ?zz42xk5 ?zz42xk6 ?zz42xk0 ?zz42xk7 ?zz42xk8 ?zz42xk9 ?zz42xk10 ?zz42xk11 ?_; (case zz42xk1 => k_asm); (case zz42xk2 => k_asm); (case zz42xk3 => k_asm); (case zz42xk4 => k_mem); (case zz42xk5 => k_updF); (case zz42xk6 => assumption); (case zz42xk0 => first | exact rfl | assumption); (case zz42xk7 => k_is); (case zz42xk8 => k_is); (case zz42xk9 => k_is); (case zz42xk10 => k_is); (case zz42xk11 => exact Nat.le_of_ble_eq_true rfl); k_whole; intro h' o' F' N' a'; (try dsimp only at N' a' F'); (try k_sweep)))
  k_with "getAttr ref" => (k_here; k_dflt (refine' at_get ?zz43xk1 ?zz43xk2 ?zz43xk3 ?zz43xk4 ?zz43xk5 ?zz43xk6 ?zz43xk7 ?zz43xk8 ?zz43xk9 ?zz43xk10 ?zz43xk11 ?zz43xk12 ?_; (case zz43xk1 => k_asm); (case zz43xk2 => k_asm); (case zz43xk3 => k_asm); (case zz43xk4 => k_mem); (case zz43xk5 => k_mem); (case zz43xk6 => assumption); (case zz43xk7 => first | exact rfl | assumption); (case zz43xk8 => k_is); (case zz43xk9 => k_is); (case zz43xk10 => k_is); (case zz43xk11 => k_is); (case zz43xk12 => k_handed); k_whole))
  k_with "call type:list" => (k_here; (with_reducible show wpAny _ _ (call (Value.type _) [Value.ref _]) _ _ _); (with_unfolding_all refine' list_copyK ?zz44xk1 ?zz44xk2 ?zz44xk3 ?_ ?zz44xz; (case zz44xk1 => k_asm); (case zz44xk2 => k_asm); (case zz44xk3 => exact News.isList (d := none) (sl := #[]) (by k_asm) (by k_mem)); (case zz44xz => size_fits); k_whole); intro D' c' h' F' N' l1; (have nd' := nd_cons l1 (by assumption)); (try k_sweep))
  k_with "compareOp Eq ref ref" => (k_here; (with_reducible show wpAny _ _ (compareOp CmpOp.Eq (Value.ref _) (Value.ref _)) _ _ _); k_dflt (refine' ke_eq_ints (xs := []) (ys := []) ?zz45xa ?zz45xb .nil .nil ?zz45xu ?_; (case zz45xa => exact News.isList (d := none) (sl := #[]) (items := #[]) (by k_asm) (by k_mem)); (case zz45xb => exact News.isList (d := none) (sl := #[]) (items := #[]) (by k_asm) (by k_mem)); (case zz45xu => ktr_units); k_whole))
  k_with "call builtin:len" => (k_here; (with_reducible show wpAny _ _ (call (Value.builtin "len") [Value.ref _]) _ _ _); k_dflt (refine' lad_len ?zz46xa ?zz46xb ?zz46xc ?zz46xd ?_; (case zz46xa => k_asm); (case zz46xb => k_updF); (case zz46xc => assumption); (case zz46xd => omega); k_whole))
  k_with "setItem ref int" => (k_here; (with_reducible show wpAny _ _ (setItem (Value.ref _) (Value.int _ _) (Value.int _ _)) _ _ _); k_dflt (refine' lad_set ?zz47xa ?zz47xb ?zz47xc ?zz47xd ?_; (case zz47xa => k_asm); (case zz47xb => k_asm); (case zz47xc => k_updF); (case zz47xd => assumption); k_whole; intro h' ol' F' N' ld' u'; (try dsimp only at N'); (try k_sweep)))
  k_with "subscriptTail" => (k_here; (with_reducible show wpAny _ _ (subscriptTail _ _ (Value.ref _) (Value.int _ _)) _ _ _); k_dflt (refine' lad_at ?zz48xa ?zz48xb ?zz48xc ?zz48xd ?zz48xe ?zz48xf ?_ ?zz48xs; (case zz48xa => k_asm); (case zz48xb => k_updF); (case zz48xc => assumption); (case zz48xd => omega); (case zz48xe => omega); (case zz48xf => omega); (case zz48xs => with_unfolding_all rfl); k_whole; intro x' t'))
  k_with "subscriptTail" => (k_here; (with_reducible show wpAny _ _ (subscriptTail _ _ (Value.ref _) (Value.int 0 _)) _ _ _); k_dflt (refine' lad_get ?zz49xa ?zz49xb ?zz49xc ?_ ?zz49xs; (case zz49xa => k_asm); (case zz49xb => k_updF); (case zz49xc => assumption); (case zz49xs => with_unfolding_all rfl); k_whole; intro t'))
  trivial



theorem rung_c {w : World} {mean : ExcName → Option Value} {mg mb : Str → Option Value}
    {dp un : Nat} {gd : Option (List Code)} {cn : Str} {cs : Scope} {a : Addr} {ccd : Value} {cl : List (Str × Addr)} {outer : List Env} {A₀ : Around} {base h₀ : Heap} {L : Addr} {m : Str → Option Value} {news : List (Addr × Obj)} {s : Shared}
    {Q E : Value → Shared → Prop} {ld : Addr} {ol : Obj} {g : Obj → List (Addr × Obj)} {k : Int} {n : Nat} {many : Int} {tm : Tok}
    (B : Below A₀ base outer h₀) (F : Fr h₀ L s.heap m) (KX : (Mine.K w.params).In h₀) (T : Top Mine.q0 (looseW Mine.q0 [Str.ofString "Limits"]) mean mg mb h₀) (hk : cs.kind = .function) (N : News h₀ L s.heap news) (hd : dp + 10 < recursionLimit) (hu : un + 500 < cLine) (U : UpdF ld ol news g) (hl : Lad ol k n) (hn : n ≤ 64) (h0 : 0 ≤ k) (h1 : k ≤ 1000) (hm : 1 ≤ many) (hm2 : many ≤ 6)
    (hret : ∀ r tk ol' h' tks, Fr h₀ L h' m → News h₀ L h' (g ol') → Lad ol' (k + 1) n → 0 ≤ r → r < many → Q (.int r tk) { s with heap := h', toks := tks }) :
    wpAny (model PySem.Challenge.rw_rg0009_01.row.prog w) (ktrTop dp un gd cn cs L a ccd cl outer) (call (.ref 317) [.ref ld, .int many tm]) Q E s := by
  (try w_top off); revert KX; k_fill; intro KX
  refine wpAny_call ?_
  (k_extra "ENTER")
  k_steps
  all_goals refine hret _ _ _ _ _ (by k_asm) (by k_asm) (by assumption) ?_ ?_
  all_goals first | exact Int.fmod_nonneg_of_pos _ (by omega) | exact Int.fmod_lt_of_pos _ (by omega)


end Mine
end
section
open PySem PySem.W PyProof.Rows
namespace Mine
theorem ln6 : True := by
  k_with_none
  k_with "ENTER" => (first | (refine' code_def ?zz60xk1 ?zz60xk2 ?zz60xk3 ?zz60xk4 ?zz60xk5 ?zz60xkA ?zz60xkF ?zz60xkK ?zz60xk6 ?zz60xk7 ?zz60xk8 ?zz60xk9 ?zz60xkB ?_ ?zz60xc2 ?zz60xc3 ?zz60xc4 ?zz60xc5; (case zz60xkA => exact rfl); (case zz60xkF => exact rfl); (case zz60xkK => first | exact rfl | assumption); (case zz60xk1 => k_asm); (case zz60xk2 => k_asm); (case zz60xk3 => k_asm); (case zz60xk4 => k_asm); (case zz60xk5 => k_asm); (case zz60xk6 => k_is); (case zz60xk7 => k_is); (case zz60xk8 => ktr_room); (case zz60xk9 => first | exact BindsTo.of_eq (binds := []) rfl | exact BindsTo.of_eq (binds := [(_, _)]) rfl | exact BindsTo.of_eq (binds := [(_, _), (_, _)]) rfl | exact BindsTo.of_eq (binds := [(_, _), (_, _), (_, _)]) rfl | exact BindsTo.of_eq (binds := [(_, _), (_, _), (_, _), (_, _)]) rfl | exact BindsTo.of_eq (binds := [(_, _), (_, _), (_, _), (_, _), (_, _)]) rfl | exact BindsTo.of_eq (binds := [(_, _), (_, _), (_, _), (_, _), (_, _), (_, _)]) rfl | exact BindsTo.of_eq (binds := [(_, _), (_, _), (_, _), (_, _), (_, _), (_, _), (_, _)]) rfl | exact BindsTo.of_eq (binds := [(_, _), (_, _), (_, _), (_, _), (_, _), (_, _), (_, _), (_, _)]) rfl | exact BindsTo.of_eq (binds := [(_, _), (_, _), (_, _), (_, _), (_, _), (_, _), (_, _), (_, _), (_, _)]) rfl | exact BindsTo.of_eq (binds := [(_, _), (_, _), (_, _), (_, _), (_, _), (_, _), (_, _), (_, _), (_, _), (_, _)]) rfl | exact binds_K (by k_in) rfl (by k_is) rfl rfl rfl); (case zz60xc5 => decide); (case zz60xkB => exact locs rfl); (case zz60xc2 => exact rfl); (case zz60xc3 => exact rfl); (case zz60xc4 => exact rfl); k_whole; intro g' L' h' FG' F' N' B' X' T'; (try dsimp only); (try k_fold)) | (refine' code_defC ?zz60xk1 ?zz60xk2 ?zz60xk3 ?zz60xk4 ?zz60xk5 ?zz60xkA ?zz60xkF ?zz60xkK ?zz60xk6 ?zz60xk7 ?zz60xk8 ?zz60xk9 ?zz60xkB ?zz60xkD ?_ ?zz60xc2 ?zz60xc3 ?zz60xc4; (case zz60xkA => exact rfl); (case zz60xkF => exact rfl); (case zz60xkK => first | exact rfl | assumption); (case zz60xk1 => k_asm); (case zz60xk2 => k_asm); (case zz60xk3 => k_asm); (case zz60xk4 => k_asm); (case zz60xk5 => k_asm); (case zz60xk6 => k_is); (case zz60xk7 => k_is); (case zz60xk8 => ktr_room); (case zz60xk9 => first | exact BindsTo.of_eq (binds := []) rfl | exact BindsTo.of_eq (binds := [(_, _)]) rfl | exact BindsTo.of_eq (binds := [(_, _), (_, _)]) rfl | exact BindsTo.of_eq (binds := [(_, _), (_, _), (_, _)]) rfl | exact BindsTo.of_eq (binds := [(_, _), (_, _), (_, _), (_, _)]) rfl | exact BindsTo.of_eq (binds := [(_, _), (_, _), (_, _), (_, _), (_, _)]) rfl | exact BindsTo.of_eq (binds := [(_, _), (_, _), (_, _), (_, _), (_, _), (_, _)]) rfl | exact BindsTo.of_eq (binds := [(_, _), (_, _), (_, _), (_, _), (_, _), (_, _), (_, _)]) rfl | exact BindsTo.of_eq (binds := [(_, _), (_, _), (_, _), (_, _), (_, _), (_, _), (_, _), (_, _)]) rfl | exact BindsTo.of_eq (binds := [(_, _), (_, _), (_, _), (_, _), (_, _), (_, _), (_, _), (_, _), (_, _)]) rfl | exact BindsTo.of_eq (binds := [(_, _), (_, _), (_, _), (_, _), (_, _), (_, _), (_, _), (_, _), (_, _), (_, _)]) rfl | exact binds_K (by k_in) rfl (by k_is) rfl rfl rfl); (case zz60xkB => exact rfl); (case zz60xkD => decide +kernel); (case zz60xc2 => exact rfl); (case zz60xc3 => exact rfl); (case zz60xc4 => exact rfl); k_whole; intro g' L' h' tk' cells' FG' F' N' Y' B' X' T' l1; k_cells Y'; (try simp only [List.cons_append, List.nil_append] at N'); (try dsimp only); (try k_fold)))
  k_with "call ref" => (k_here; k_dflt (refine' mk_inst ?zz51xk1 ?zz51xk2 ?zz51xk3 ?zz51xk4 ?zz51xk5 ?zz51xk6 ?_; (case zz51xk1 => k_asm); (case zz51xk2 => k_asm); (case zz51xk3 => k_asm); (case zz51xk4 => k_is); (case zz51xk5 => k_is); (case zz51xk6 => k_is); k_whole; intro x' d' o' h' F' N' a' l1 l2; (have nd' := nd_cons2 l1 l2 (by assumption)); (try k_sweep); (k_extra "ENTER")))
  k_with "setAttr ref" => (k_here; k_dflt (refine' at_set ?zz52xk1 ?zz52xk2 ?zz52xk3 ?zz52xk4 ?zz52xk5 ?zz52xk6 ?zz52xk7 ?zz52xk8 ?zz52xk9 ?zz52xk10 ?zz52xk11 ?_; (case zz52xk1 => k_asm); (case zz52xk2 => k_asm); (case zz52xk3 => k_asm); (case zz52xk4 => k_mem); (case zz52xk5 => k_updF); (case zz52xk6 => assumption); (case zz52xk7 => k_is); (case zz52xk8 => k_is); (case zz52xk9 => k_is); (case zz52xk10 => k_is); (case zz52xk11 => exact Nat.le_of_ble_eq_true rfl); k_whole; intro h' o' F' N' a'; (try dsimp only at N' a' F'); (try k_sweep)))
  k_with "setAttr ref" => (k_here; k_dflt (refine' at_again ?zz53xk1 ?zz53xk2 ?zz53xk3 ?zz53xk4 ?zz53xk5 ?zz53xk6 ?zz53xk0 ?zz53xk7 ?zz53xk8 ?zz53xk9 ?zz53xk10 ?zz53xk11 ?_; (case zz53xk1 => k_asm); (case zz53xk2 => k_asm); (case zz53xk3 => k_asm); (case zz53xk4 => k_mem); (case zz53xk5 => k_updF); (case zz53xk6 => assumption); (case zz53xk0 => first | exact rfl | assumption); (case zz53xk7 => k_is); (case zz53xk8 => k_is); (case zz53xk9 => k_is); (case zz53xk10 => k_is); (case zz53xk11 => exact Nat.le_of_ble_eq_true rfl); k_whole; intro h' o' F' N' a'; (try dsimp only at N' a' F'); (try k_sweep)))
  k_with "getAttr ref" => (k_here; k_dflt (refine' at_get ?zz54xk1 ?zz54xk2 ?zz54xk3 ?zz54xk4 ?zz54xk5 ?zz54xk6 ?zz54xk7 ?zz54xk8 ?zz54xk9 ?zz54xk10 ?zz54xk11 ?zz54xk12 ?_; (case zz54xk1 => k_asm); (case zz54xk2 => k_asm); (case zz54xk3 => k_asm); (case zz54xk4 => k_mem); (case zz54xk5 => k_mem); (case zz54xk6 => assumption); (case zz54xk7 => first | exact rfl | assumption); (case zz54xk8 => k_is); (case zz54xk9 => k_is); (case zz54xk10 => k_is); (case zz54xk11 => k_is); (case zz54xk12 => k_handed); k_whole))
  k_with "call type:list" => (k_here; (with_reducible show wpAny _ _ (call (Value.type _) [Value.ref _]) _ _ _); (with_unfolding_all refine' list_copyK ?zz55xk1 ?zz55xk2 ?zz55xk3 ?_ ?zz55xz; (case zz55xk1 => k_asm); (case zz55xk2 => k_asm); (case zz55xk3 => exact News.isList (d := none) (sl := #[]) (by k_asm) (by k_mem)); (case zz55xz => size_fits); k_whole); intro D' c' h' F' N' l1; (have nd' := nd_cons l1 (by assumption)); (try k_sweep))
  k_with "compareOp Eq ref ref" => (k_here; (with_reducible show wpAny _ _ (compareOp CmpOp.Eq (Value.ref _) (Value.ref _)) _ _ _); k_dflt (refine' ke_eq_ints (xs := []) (ys := []) ?zz56xa ?zz56xb .nil .nil ?zz56xu ?_; (case zz56xa => exact News.isList (d := none) (sl := #[]) (items := #[]) (by k_asm) (by k_mem)); (case zz56xb => exact News.isList (d := none) (sl := #[]) (items := #[]) (by k_asm) (by k_mem)); (case zz56xu => ktr_units); k_whole))
  k_with "eval Name" => (k_here; k_dflt (refine' ld ?zz57xk1 ?zz57xk2 ?_; (case zz57xk1 => k_asm); (case zz57xk2 => first | exact rfl | assumption); k_whole))
  k_with "compareOp NotIn" => (k_here; (with_reducible show wpAny _ _ (compareOp CmpOp.NotIn (Value.str _ _) (Value.ref _)) _ _ _); k_dflt (refine' tup_notIn ?zz58xa ?zz58xb ?zz58xc ?zz58xd ?zz58xe ?_; (case zz58xa => k_asm); (case zz58xb => k_asm); (case zz58xc => k_is); (case zz58xd => exact rfl); (case zz58xe => first | exact (rfl : _ = true) | exact (rfl : _ = false) | exact (by decide : _ = true) | exact (by decide : _ = false)); k_whole; (try dsimp only [Bool.not_true, Bool.not_false])))
  k_with "compareOp In" => (k_here; (with_reducible show wpAny _ _ (compareOp CmpOp.In (Value.str _ _) (Value.ref _)) _ _ _); k_dflt (refine' tup_in ?zz59xa ?zz59xb ?zz59xc ?zz59xd ?zz59xe ?_; (case zz59xa => k_asm); (case zz59xb => k_asm); (case zz59xc => k_is); (case zz59xd => exact rfl); (case zz59xe => first | exact (rfl : _ = true) | exact (rfl : _ = false) | exact (by decide : _ = true) | exact (by decide : _ = false)); k_whole))
  trivial



theorem frame_c {w : World} {mean : ExcName → Option Value} {mg mb : Str → Option Value}
    {dp un : Nat} {gd : Option (List Code)} {cn : Str} {cs : Scope} {a : Addr} {ccd : Value} {cl : List (Str × Addr)} {outer : List Env} {A₀ : Around} {base h₀ : Heap} {L : Addr} {m : Str → Option Value} {news : List (Addr × Obj)} {s : Shared}
    {Q E : Value → Shared → Prop} {r : Addr} {rr drr : Addr} {odrr : Obj} {tkrr tMr tnurr tlvrr tptrr : Tok} {parr : Value} {ptrr : Str} {Mr nurr lvrr : Int} {rnrr rorr ca ta : Addr} {n : Nat} (hrr : (rr, instObj 113 drr) ∈ news) (hdrr : (drr, odrr) ∈ news) (arr : Attrs 16 odrr (at_ (regL "root" tkrr parr rr Mr tMr nurr tnurr lvrr tlvrr ptrr tptrr rnrr rorr ca ta))) (hc : Chain news rr n r)
    (B : Below A₀ base outer h₀) (F : Fr h₀ L s.heap m) (KX : (Mine.K w.params).In h₀) (T : Top Mine.q0 (looseW Mine.q0 [Str.ofString "Limits"]) mean mg mb h₀) (hk : cs.kind = .function) (N : News h₀ L s.heap news) (hd : dp + 10 < recursionLimit) (hu : un + 500 < cLine)
    (hret : ∀ h' tks, Fr h₀ L h' m → News h₀ L h' news → Q (.ref rr) { s with heap := h', toks := tks }) :
    wpAny (model PySem.Challenge.rw_rg0009_01.row.prog w) (ktrTop dp un gd cn cs L a ccd cl outer) (call (.ref 131) [.ref r]) Q E s := by
  (try w_top off); revert KX; k_fill; intro KX
  refine wpAny_call ?_
  (k_extra "ENTER")
  iterate 6 (first | (k_unfold; (try dsimp only)) | walk1 | (dsimp only; walk1))
  refine While_inv (n₀ := n) (fun j m₁ news₁ => news₁ = news ∧ ∃ r', m₁ "here" = some (.ref r') ∧ Chain news rr j r') (by k_asm) (by k_asm) ⟨rfl, r, rfl, hc⟩ ?_ ?_
  · rintro j m₁ news₁ h₁ tk₁ F₁ N₁ ⟨rfl, r', hm, hch⟩
    cases j with
    | zero =>
      obtain rfl := hch
      k_steps
      all_goals exact hret _ _ (by k_asm) (by k_asm)
    | succ j =>
      obtain ⟨r2, tk, M, tM, nu, tn, lv, tl, pt, tpt, rn, ro, rc, rh, ⟨dr, odr, i1, i2, i3⟩, hch2⟩ := hch
      k_steps
      all_goals exact WhileStep.intro (by k_asm) (by k_asm) (Nat.lt_succ_self _) ⟨rfl, r2, rfl, hch2⟩
  · first | passes_own | (subst ek; passes_own) | (unfold ek; passes_own)

end Mine
end
section
open PySem PySem.W PyProof.Rows
namespace Mine
theorem ln7 : True := by
  k_with_none
  k_with "ENTER" => (first | (refine' code_def ?zz73xk1 ?zz73xk2 ?zz73xk3 ?zz73xk4 ?zz73xk5 ?zz73xkA ?zz73xkF ?zz73xkK ?zz73xk6 ?zz73xk7 ?zz73xk8 ?zz73xk9 ?zz73xkB ?_ ?zz73xc2 ?zz73xc3 ?zz73xc4 ?zz73xc5; (case zz73xkA => exact rfl); (case zz73xkF => exact rfl); (case zz73xkK => first | exact rfl | assumption); (case zz73xk1 => k_asm); (case zz73xk2 => k_asm); (case zz73xk3 => k_asm); (case zz73xk4 => k_asm); (case zz73xk5 => k_asm); (case zz73xk6 => k_is); (case zz73xk7 => k_is); (case zz73xk8 => ktr_room); (case zz73xk9 => first | exact BindsTo.of_eq (binds := []) rfl | exact BindsTo.of_eq (binds := [(_, _)]) rfl | exact BindsTo.of_eq (binds := [(_, _), (_, _)]) rfl | exact BindsTo.of_eq (binds := [(_, _), (_, _), (_, _)]) rfl | exact BindsTo.of_eq (binds := [(_, _), (_, _), (_, _), (_, _)]) rfl | exact BindsTo.of_eq (binds := [(_, _), (_, _), (_, _), (_, _), (_, _)]) rfl | exact BindsTo.of_eq (binds := [(_, _), (_, _), (_, _), (_, _), (_, _), (_, _)]) rfl | exact BindsTo.of_eq (binds := [(_, _), (_, _), (_, _), (_, _), (_, _), (_, _), (_, _)]) rfl | exact BindsTo.of_eq (binds := [(_, _), (_, _), (_, _), (_, _), (_, _), (_, _), (_, _), (_, _)]) rfl | exact BindsTo.of_eq (binds := [(_, _), (_, _), (_, _), (_, _), (_, _), (_, _), (_, _), (_, _), (_, _)]) rfl | exact BindsTo.of_eq (binds := [(_, _), (_, _), (_, _), (_, _), (_, _), (_, _), (_, _), (_, _), (_, _), (_, _)]) rfl | exact binds_K (by k_in) rfl (by k_is) rfl rfl rfl); (case zz73xc5 => decide); (case zz73xkB => exact locs rfl); (case zz73xc2 => exact rfl); (case zz73xc3 => exact rfl); (case zz73xc4 => exact rfl); k_whole; intro g' L' h' FG' F' N' B' X' T'; (try dsimp only); (try k_fold)) | (refine' code_defC ?zz73xk1 ?zz73xk2 ?zz73xk3 ?zz73xk4 ?zz73xk5 ?zz73xkA ?zz73xkF ?zz73xkK ?zz73xk6 ?zz73xk7 ?zz73xk8 ?zz73xk9 ?zz73xkB ?zz73xkD ?_ ?zz73xc2 ?zz73xc3 ?zz73xc4; (case zz73xkA => exact rfl); (case zz73xkF => exact rfl); (case zz73xkK => first | exact rfl | assumption); (case zz73xk1 => k_asm); (case zz73xk2 => k_asm); (case zz73xk3 => k_asm); (case zz73xk4 => k_asm); (case zz73xk5 => k_asm); (case zz73xk6 => k_is); (case zz73xk7 => k_is); (case zz73xk8 => ktr_room); (case zz73xk9 => first | exact BindsTo.of_eq (binds := []) rfl | exact BindsTo.of_eq (binds := [(_, _)]) rfl | exact BindsTo.of_eq (binds := [(_, _), (_, _)]) rfl | exact BindsTo.of_eq (binds := [(_, _), (_, _), (_, _)]) rfl | exact BindsTo.of_eq (binds := [(_, _), (_, _), (_, _), (_, _)]) rfl | exact BindsTo.of_eq (binds := [(_, _), (_, _), (_, _), (_, _), (_, _)]) rfl | exact BindsTo.of_eq (binds := [(_, _), (_, _), (_, _), (_, _), (_, _), (_, _)]) rfl | exact BindsTo.of_eq (binds := [(_, _), (_, _), (_, _), (_, _), (_, _), (_, _), (_, _)]) rfl | exact BindsTo.of_eq (binds := [(_, _), (_, _), (_, _), (_, _), (_, _), (_, _), (_, _), (_, _)]) rfl | exact BindsTo.of_eq (binds := [(_, _), (_, _), (_, _), (_, _), (_, _), (_, _), (_, _), (_, _), (_, _)]) rfl | exact BindsTo.of_eq (binds := [(_, _), (_, _), (_, _), (_, _), (_, _), (_, _), (_, _), (_, _), (_, _), (_, _)]) rfl | exact binds_K (by k_in) rfl (by k_is) rfl rfl rfl); (case zz73xkB => exact rfl); (case zz73xkD => decide +kernel); (case zz73xc2 => exact rfl); (case zz73xc3 => exact rfl); (case zz73xc4 => exact rfl); k_whole; intro g' L' h' tk' cells' FG' F' N' Y' B' X' T' l1; k_cells Y'; (try simp only [List.cons_append, List.nil_append] at N'); (try dsimp only); (try k_fold)))
  k_with "call ref" => (k_here; k_dflt (refine' mk_inst ?zz61xk1 ?zz61xk2 ?zz61xk3 ?zz61xk4 ?zz61xk5 ?zz61xk6 ?_; (case zz61xk1 => k_asm); (case zz61xk2 => k_asm); (case zz61xk3 => k_asm); (case zz61xk4 => k_is); (case zz61xk5 => k_is); (case zz61xk6 => k_is); k_whole; intro x' d' o' h' F' N' a' l1 l2; (have nd' := nd_cons2 l1 l2 (by assumption)); (try k_sweep); (k_extra "ENTER")))
  k_with "setAttr ref" => (k_here; k_dflt (refine' at_set ?zz62xk1 ?zz62xk2 ?zz62xk3 ?zz62xk4 ?zz62xk5 ?zz62xk6 ?zz62xk7 ?zz62xk8 ?zz62xk9 ?zz62xk10 ?zz62xk11 ?_; (case zz62xk1 => k_asm); (case zz62xk2 => k_asm); (case zz62xk3 => k_asm); (case zz62xk4 => k_mem); (case zz62xk5 => k_updF); (case zz62xk6 => assumption); (case zz62xk7 => k_is); (case zz62xk8 => k_is); (case zz62xk9 => k_is); (case zz62xk10 => k_is); (case zz62xk11 => exact Nat.le_of_ble_eq_true rfl); k_whole; intro h' o' F' N' a'; (try dsimp only at N' a' F'); (try k_sweep)))
  k_with "setAttr ref" => (k_here; k_dflt (refine' at_again ?zz63xk1 ?zz63xk2 ?zz63xk3 ?zz63xk4 ?zz63xk5 ?zz63xk6 ?zz63xk0 ?zz63xk7 ?zz63xk8 ?zz63xk9 ?zz63xk10 ?zz63xk11 ?_; (case zz63xk1 => k_asm); (case zz63xk2 => k_asm); (case zz63xk3 => k_asm); (case zz63xk4 => k_mem); (case zz63xk5 => k_updF); (case zz63xk6 => assumption); (case zz63xk0 => first | exact rfl | assumption); (case zz63xk7 => k_is); (case zz63xk8 => k_is); (case zz63xk9 => k_is); (case zz63xk10 => k_is); (case zz63xk11 => exact Nat.le_of_ble_eq_true rfl); k_whole; intro h' o' F' N' a'; (try dsimp only at N' a' F'); (try k_sweep)))
  k_with "getAttr ref" => (k_here; k_dflt (refine' at_get ?zz64xk1 ?zz64xk2 ?zz64xk3 ?zz64xk4 ?zz64xk5 ?zz64xk6 ?zz64xk7 ?zz64xk8 ?zz64xk9 ?zz64xk10 ?zz64xk11 ?zz64xk12 ?_; (case zz64xk1 => k_asm); (case zz64xk2 => k_asm); (case zz64xk3 => k_asm); (case zz64xk4 => k_mem); (case zz64xk5 => k_mem); (case zz64xk6 => assumption); (case zz64xk7 => first | exact rfl | assumption); (case zz64xk8 => k_is); (case zz64xk9 => k_is); (case zz64xk10 => k_is); (case zz64xk11 => k_is); (case zz64xk12 => k_handed); k_whole))
  k_with "call type:list" => (k_here; (with_reducible show wpAny _ _ (call (Value.type _) [Value.ref _]) _ _ _); (with_unfolding_all refine' list_copyK ?zz65xk1 ?zz65xk2 ?zz65xk3 ?_ ?zz65xz; (case zz65xk1 => k_asm); (case zz65xk2 => k_asm); (case zz65xk3 => exact News.isList (d := none) (sl := #[]) (by k_asm) (by k_mem)); (case zz65xz => size_fits); k_whole); intro D' c' h' F' N' l1; (have nd' := nd_cons l1 (by assumption)); (try k_sweep))
  k_with "compareOp Eq ref ref" => (k_here; (with_reducible show wpAny _ _ (compareOp CmpOp.Eq (Value.ref _) (Value.ref _)) _ _ _); k_dflt (refine' ke_eq_ints (xs := []) (ys := []) ?zz66xa ?zz66xb .nil .nil ?zz66xu ?_; (case zz66xa => exact News.isList (d := none) (sl := #[]) (items := #[]) (by k_asm) (by k_mem)); (case zz66xb => exact News.isList (d := none) (sl := #[]) (items := #[]) (by k_asm) (by k_mem)); (case zz66xu => ktr_units); k_whole))
  k_with "getMethod ref" => (k_here; k_dflt (first | ((with_reducible show wpAny _ _ (getMethod (Value.ref _) (Str.ofString "get") _) _ _ _); refine' dic_method (knd := PySem.strKind _ _) PySem.F.slot_dict_get PySem.F.type_dict_get ?zz67xa ?zz67xb ?zz67xc ?_; (case zz67xa => k_asm); (case zz67xb => k_mem); (case zz67xc => assumption); k_whole) | ((with_reducible show wpAny _ _ (getMethod (Value.ref _) (Str.ofString "get") _) _ _ _); refine' dic_method (knd := PySem.intKind _ _) PySem.F.slot_dict_get PySem.F.type_dict_get ?zz67xa ?zz67xb ?zz67xc ?_; (case zz67xa => k_asm); (case zz67xb => k_mem); (case zz67xc => assumption); k_whole) | ((with_reducible show wpAny _ _ (getMethod (Value.ref _) (Str.ofString "setdefault") _) _ _ _); refine' dic_method (knd := PySem.strKind _ _) PySem.F.slot_dict_setdefault PySem.F.type_dict_setdefault ?zz67xa ?zz67xb ?zz67xc ?_; (case zz67xa => k_asm); (case zz67xb => k_mem); (case zz67xc => assumption); k_whole) | ((with_reducible show wpAny _ _ (getMethod (Value.ref _) (Str.ofString "setdefault") _) _ _ _); refine' dic_method (knd := PySem.intKind _ _) PySem.F.slot_dict_setdefault PySem.F.type_dict_setdefault ?zz67xa ?zz67xb ?zz67xc ?_; (case zz67xa => k_asm); (case zz67xb => k_mem); (case zz67xc => assumption); k_whole)))
  k_with "call builtin:dict.get" => (k_here; k_dflt (first
  | (refine' dic_get2 (knd := PySem.strKind _ _) ?zz68xa ?zz68xb ?zz68xc ?zz68xd (strKind_is _ _ _ _) ?_; (case zz68xa => k_asm); (case zz68xb => k_mem); (case zz68xc => assumption); (case zz68xd => assumption); k_whole)
  | (refine' dic_get1 (knd := PySem.intKind _ _) ?zz68xa ?zz68xb ?zz68xc ?zz68xd (intKind_is _ _ _ _) ?_; (case zz68xa => k_asm); (case zz68xb => k_mem); (case zz68xc => assumption); (case zz68xd => assumption); k_whole)); (try simp only [Option.getD_none, Option.getD_some, *]))
  k_with "call builtin:dict.setdefault" => (k_here; k_dflt (first
  | (refine' dic_default (knd := PySem.strKind _ _) ?zz69xa ?zz69xb ?zz69xc ?zz69xd ?zz69xe (strKind_is _ _ _ _) ?zz69xf ?zz69xg ?_; (case zz69xa => k_asm); (case zz69xb => k_asm); (case zz69xc => k_updF); (case zz69xd => assumption); (case zz69xe => assumption); (case zz69xf => omega); (case zz69xg => assumption); k_whole)
  | (refine' dic_default (knd := PySem.intKind _ _) ?zz69xa ?zz69xb ?zz69xc ?zz69xd ?zz69xe (intKind_is _ _ _ _) ?zz69xf ?zz69xg ?_; (case zz69xa => k_asm); (case zz69xb => k_asm); (case zz69xc => k_updF); (case zz69xd => assumption); (case zz69xe => assumption); (case zz69xf => omega); (case zz69xg => assumption); k_whole)); intro h' o' F' N' dc'; (try dsimp only at N' dc' F'); (try k_sweep))
  k_with "setItem ref str" => (k_here; k_dflt (refine' dic_set (knd := PySem.strKind _ _) ?zz70xa ?zz70xb ?zz70xc ?zz70xd (strKind_is _ _ _ _) ?zz70xf ?_; (case zz70xa => k_asm); (case zz70xb => k_asm); (case zz70xc => k_updF); (case zz70xd => assumption); (case zz70xf => omega); k_whole); intro h' o' F' N' dc'; (try dsimp only at N' dc' F'); (try k_sweep))
  k_with "compareOp NotIn" => (k_here; (with_reducible show wpAny _ _ (compareOp CmpOp.NotIn (Value.str _ _) (Value.ref _)) _ _ _); k_dflt (refine' tup_notIn ?zz71xa ?zz71xb ?zz71xc ?zz71xd ?zz71xe ?_; (case zz71xa => k_asm); (case zz71xb => k_asm); (case zz71xc => k_is); (case zz71xd => exact rfl); (case zz71xe => first | exact (rfl : _ = true) | exact (rfl : _ = false) | exact (by decide : _ = true) | exact (by decide : _ = false)); k_whole; (try dsimp only [Bool.not_true, Bool.not_false])))
  k_with "compareOp In" => (k_here; (with_reducible show wpAny _ _ (compareOp CmpOp.In (Value.str _ _) (Value.ref _)) _ _ _); k_dflt (refine' tup_in ?zz72xa ?zz72xb ?zz72xc ?zz72xd ?zz72xe ?_; (case zz72xa => k_asm); (case zz72xb => k_asm); (case zz72xc => k_is); (case zz72xd => exact rfl); (case zz72xe => first | exact (rfl : _ = true) | exact (rfl : _ = false) | exact (by decide : _ = true) | exact (by decide : _ = false)); k_whole))
  trivial



theorem uniq_c {w : World} {mean : ExcName → Option Value} {mg mb : Str → Option Value}
    {dp un : Nat} {gd : Option (List Code)} {cn : Str} {cs : Scope} {a : Addr} {ccd : Value} {cl : List (Str × Addr)} {outer : List Env} {A₀ : Around} {base h₀ : Heap} {L : Addr} {m : Str → Option Value} {news : List (Addr × Obj)} {s : Shared}
    {Q E : Value → Shared → Prop} {nm : Str} {tn : Tok} {c : Int} {tc : Tok}
    (B : Below A₀ base outer h₀) (F : Fr h₀ L s.heap m) (KX : (Mine.K w.params).In h₀) (T : Top Mine.q0 (looseW Mine.q0 [Str.ofString "Limits"]) mean mg mb h₀) (hk : cs.kind = .function) (N : News h₀ L s.heap news) (hd : dp + 10 < recursionLimit) (hu : un + 500 < cLine) (h0 : 0 ≤ c) (h1 : c ≤ 1000) (hn : nm.length ≤ 10)
    (hret : ∀ x tk h' tks, Fr h₀ L h' m → News h₀ L h' news → Q (.str x tk) { s with heap := h', toks := tks }) :
    wpAny (model PySem.Challenge.rw_rg0009_01.row.prog w) (ktrTop dp un gd cn cs L a ccd cl outer) (call (.ref 95) [.str nm tn, .int c tc]) Q E s := by
  (try w_top off); revert KX; k_fill; intro KX
  refine wpAny_call ?_
  (k_extra "ENTER")
  k_steps
  all_goals exact hret _ _ _ _ (by k_asm) (by ktr_rel)

end Mine
end
section
open PySem PySem.W PyProof.Rows
namespace Mine
theorem ln8 : True := by
  k_with_none
  k_with "ENTER" => (first | (refine' code_def ?zz92xk1 ?zz92xk2 ?zz92xk3 ?zz92xk4 ?zz92xk5 ?zz92xkA ?zz92xkF ?zz92xkK ?zz92xk6 ?zz92xk7 ?zz92xk8 ?zz92xk9 ?zz92xkB ?_ ?zz92xc2 ?zz92xc3 ?zz92xc4 ?zz92xc5; (case zz92xkA => exact rfl); (case zz92xkF => exact rfl); (case zz92xkK => first | exact rfl | assumption); (case zz92xk1 => k_asm); (case zz92xk2 => k_asm); (case zz92xk3 => k_asm); (case zz92xk4 => k_asm); (case zz92xk5 => k_asm); (case zz92xk6 => k_is); (case zz92xk7 => k_is); (case zz92xk8 => ktr_room); (case zz92xk9 => first | exact BindsTo.of_eq (binds := []) rfl | exact BindsTo.of_eq (binds := [(_, _)]) rfl | exact BindsTo.of_eq (binds := [(_, _), (_, _)]) rfl | exact BindsTo.of_eq (binds := [(_, _), (_, _), (_, _)]) rfl | exact BindsTo.of_eq (binds := [(_, _), (_, _), (_, _), (_, _)]) rfl | exact BindsTo.of_eq (binds := [(_, _), (_, _), (_, _), (_, _), (_, _)]) rfl | exact BindsTo.of_eq (binds := [(_, _), (_, _), (_, _), (_, _), (_, _), (_, _)]) rfl | exact BindsTo.of_eq (binds := [(_, _), (_, _), (_, _), (_, _), (_, _), (_, _), (_, _)]) rfl | exact BindsTo.of_eq (binds := [(_, _), (_, _), (_, _), (_, _), (_, _), (_, _), (_, _), (_, _)]) rfl | exact BindsTo.of_eq (binds := [(_, _), (_, _), (_, _), (_, _), (_, _), (_, _), (_, _), (_, _), (_, _)]) rfl | exact BindsTo.of_eq (binds := [(_, _), (_, _), (_, _), (_, _), (_, _), (_, _), (_, _), (_, _), (_, _), (_, _)]) rfl | exact binds_K (by k_in) rfl (by k_is) rfl rfl rfl); (case zz92xc5 => decide); (case zz92xkB => exact locs rfl); (case zz92xc2 => exact rfl); (case zz92xc3 => exact rfl); (case zz92xc4 => exact rfl); k_whole; intro g' L' h' FG' F' N' B' X' T'; (try dsimp only); (try k_fold)) | (refine' code_defC ?zz92xk1 ?zz92xk2 ?zz92xk3 ?zz92xk4 ?zz92xk5 ?zz92xkA ?zz92xkF ?zz92xkK ?zz92xk6 ?zz92xk7 ?zz92xk8 ?zz92xk9 ?zz92xkB ?zz92xkD ?_ ?zz92xc2 ?zz92xc3 ?zz92xc4; (case zz92xkA => exact rfl); (case zz92xkF => exact rfl); (case zz92xkK => first | exact rfl | assumption); (case zz92xk1 => k_asm); (case zz92xk2 => k_asm); (case zz92xk3 => k_asm); (case zz92xk4 => k_asm); (case zz92xk5 => k_asm); (case zz92xk6 => k_is); (case zz92xk7 => k_is); (case zz92xk8 => ktr_room); (case zz92xk9 => first | exact BindsTo.of_eq (binds := []) rfl | exact BindsTo.of_eq (binds := [(_, _)]) rfl | exact BindsTo.of_eq (binds := [(_, _), (_, _)]) rfl | exact BindsTo.of_eq (binds := [(_, _), (_, _), (_, _)]) rfl | exact BindsTo.of_eq (binds := [(_, _), (_, _), (_, _), (_, _)]) rfl | exact BindsTo.of_eq (binds := [(_, _), (_, _), (_, _), (_, _), (_, _)]) rfl | exact BindsTo.of_eq (binds := [(_, _), (_, _), (_, _), (_, _), (_, _), (_, _)]) rfl | exact BindsTo.of_eq (binds := [(_, _), (_, _), (_, _), (_, _), (_, _), (_, _), (_, _)]) rfl | exact BindsTo.of_eq (binds := [(_, _), (_, _), (_, _), (_, _), (_, _), (_, _), (_, _), (_, _)]) rfl | exact BindsTo.of_eq (binds := [(_, _), (_, _), (_, _), (_, _), (_, _), (_, _), (_, _), (_, _), (_, _)]) rfl | exact BindsTo.of_eq (binds := [(_, _), (_, _), (_, _), (_, _), (_, _), (_, _), (_, _), (_, _), (_, _), (_, _)]) rfl | exact binds_K (by k_in) rfl (by k_is) rfl rfl rfl); (case zz92xkB => exact rfl); (case zz92xkD => decide +kernel); (case zz92xc2 => exact rfl); (case zz92xc3 => exact rfl); (case zz92xc4 => exact rfl); k_whole; intro g' L' h' tk' cells' FG' F' N' Y' B' X' T' l1; k_cells Y'; (try simp only [List.cons_append, List.nil_append] at N'); (try dsimp only); (try k_fold)))
  k_with "call ref" => (k_here; k_dflt (refine' mk_inst ?zz74xk1 ?zz74xk2 ?zz74xk3 ?zz74xk4 ?zz74xk5 ?zz74xk6 ?_; (case zz74xk1 => k_asm); (case zz74xk2 => k_asm); (case zz74xk3 => k_asm); (case zz74xk4 => k_is); (case zz74xk5 => k_is); (case zz74xk6 => k_is); k_whole; intro x' d' o' h' F' N' a' l1 l2; (have nd' := nd_cons2 l1 l2 (by assumption)); (try k_sweep); (k_extra "ENTER")))
  k_with "setAttr ref" => (k_here; k_dflt (refine' at_set ?zz75xk1 ?zz75xk2 ?zz75xk3 ?zz75xk4 ?zz75xk5 ?zz75xk6 ?zz75xk7 ?zz75xk8 ?zz75xk9 ?zz75xk10 ?zz75xk11 ?_; (case zz75xk1 => k_asm); (case zz75xk2 => k_asm); (case zz75xk3 => k_asm); (case zz75xk4 => k_mem); (case zz75xk5 => k_updF); (case zz75xk6 => assumption); (case zz75xk7 => k_is); (case zz75xk8 => k_is); (case zz75xk9 => k_is); (case zz75xk10 => k_is); (case zz75xk11 => exact Nat.le_of_ble_eq_true rfl); k_whole; intro h' o' F' N' a'; (try dsimp only at N' a' F'); (try k_sweep)))
  k_with "setAttr ref" => (k_here; k_dflt (refine' at_again ?zz76xk1 ?zz76xk2 ?zz76xk3 ?zz76xk4 ?zz76xk5 ?zz76xk6 ?zz76xk0 ?zz76xk7 ?zz76xk8 ?zz76xk9 ?zz76xk10 ?zz76xk11 ?_; (case zz76xk1 => k_asm); (case zz76xk2 => k_asm); (case zz76xk3 => k_asm); (case zz76xk4 => k_mem); (case zz76xk5 => k_updF); (case zz76xk6 => assumption); (case zz76xk0 => first | exact rfl | assumption); (case zz76xk7 => k_is); (case zz76xk8 => k_is); (case zz76xk9 => k_is); (case zz76xk10 => k_is); (case zz76xk11 => exact Nat.le_of_ble_eq_true rfl); k_whole; intro h' o' F' N' a'; (try dsimp only at N' a' F'); (try k_sweep)))
  k_with "getAttr ref" => (k_here; k_dflt (refine' at_get ?zz77xk1 ?zz77xk2 ?zz77xk3 ?zz77xk4 ?zz77xk5 ?zz77xk6 ?zz77xk7 ?zz77xk8 ?zz77xk9 ?zz77xk10 ?zz77xk11 ?zz77xk12 ?_; (case zz77xk1 => k_asm); (case zz77xk2 => k_asm); (case zz77xk3 => k_asm); (case zz77xk4 => k_mem); (case zz77xk5 => k_mem); (case zz77xk6 => assumption); (case zz77xk7 => first | exact rfl | assumption); (case zz77xk8 => k_is); (case zz77xk9 => k_is); (case zz77xk10 => k_is); (case zz77xk11 => k_is); (case zz77xk12 => k_handed); k_whole))
  k_with "call type:list" => (k_here; (with_reducible show wpAny _ _ (call (Value.type _) [Value.ref _]) _ _ _); (with_unfolding_all refine' list_copyK ?zz78xk1 ?zz78xk2 ?zz78xk3 ?_ ?zz78xz; (case zz78xk1 => k_asm); (case zz78xk2 => k_asm); (case zz78xk3 => exact News.isList (d := none) (sl := #[]) (by k_asm) (by k_mem)); (case zz78xz => size_fits); k_whole); intro D' c' h' F' N' l1; (have nd' := nd_cons l1 (by assumption)); (try k_sweep))
  k_with "compareOp Eq ref ref" => (k_here; (with_reducible show wpAny _ _ (compareOp CmpOp.Eq (Value.ref _) (Value.ref _)) _ _ _); k_dflt (refine' ke_eq_ints (xs := []) (ys := []) ?zz79xa ?zz79xb .nil .nil ?zz79xu ?_; (case zz79xa => exact News.isList (d := none) (sl := #[]) (items := #[]) (by k_asm) (by k_mem)); (case zz79xb => exact News.isList (d := none) (sl := #[]) (items := #[]) (by k_asm) (by k_mem)); (case zz79xu => ktr_units); k_whole))
  k_with "getMethod ref" => (k_here; k_dflt (first | ((with_reducible show wpAny _ _ (getMethod (Value.ref _) (Str.ofString "get") _) _ _ _); refine' dic_method (knd := PySem.strKind _ _) PySem.F.slot_dict_get PySem.F.type_dict_get ?zz80xa ?zz80xb ?zz80xc ?_; (case zz80xa => k_asm); (case zz80xb => k_mem); (case zz80xc => assumption); k_whole) | ((with_reducible show wpAny _ _ (getMethod (Value.ref _) (Str.ofString "get") _) _ _ _); refine' dic_method (knd := PySem.intKind _ _) PySem.F.slot_dict_get PySem.F.type_dict_get ?zz80xa ?zz80xb ?zz80xc ?_; (case zz80xa => k_asm); (case zz80xb => k_mem); (case zz80xc => assumption); k_whole) | ((with_reducible show wpAny _ _ (getMethod (Value.ref _) (Str.ofString "setdefault") _) _ _ _); refine' dic_method (knd := PySem.strKind _ _) PySem.F.slot_dict_setdefault PySem.F.type_dict_setdefault ?zz80xa ?zz80xb ?zz80xc ?_; (case zz80xa => k_asm); (case zz80xb => k_mem); (case zz80xc => assumption); k_whole) | ((with_reducible show wpAny _ _ (getMethod (Value.ref _) (Str.ofString "setdefault") _) _ _ _); refine' dic_method (knd := PySem.intKind _ _) PySem.F.slot_dict_setdefault PySem.F.type_dict_setdefault ?zz80xa ?zz80xb ?zz80xc ?_; (case zz80xa => k_asm); (case zz80xb => k_mem); (case zz80xc => assumption); k_whole)))
  k_with "call builtin:dict.get" => (k_here; k_dflt (first
  | (refine' dic_get2 (knd := PySem.strKind _ _) ?zz81xa ?zz81xb ?zz81xc ?zz81xd (strKind_is _ _ _ _) ?_; (case zz81xa => k_asm); (case zz81xb => k_mem); (case zz81xc => assumption); (case zz81xd => assumption); k_whole)
  | (refine' dic_get1 (knd := PySem.intKind _ _) ?zz81xa ?zz81xb ?zz81xc ?zz81xd (intKind_is _ _ _ _) ?_; (case zz81xa => k_asm); (case zz81xb => k_mem); (case zz81xc => assumption); (case zz81xd => assumption); k_whole)); (try simp only [Option.getD_none, Option.getD_some, *]))
  k_with "call builtin:dict.setdefault" => (k_here; k_dflt (first
  | (refine' dic_default (knd := PySem.strKind _ _) ?zz82xa ?zz82xb ?zz82xc ?zz82xd ?zz82xe (strKind_is _ _ _ _) ?zz82xf ?zz82xg ?_; (case zz82xa => k_asm); (case zz82xb => k_asm); (case zz82xc => k_updF); (case zz82xd => assumption); (case zz82xe => assumption); (case zz82xf => omega); (case zz82xg => assumption); k_whole)
  | (refine' dic_default (knd := PySem.intKind _ _) ?zz82xa ?zz82xb ?zz82xc ?zz82xd ?zz82xe (intKind_is _ _ _ _) ?zz82xf ?zz82xg ?_; (case zz82xa => k_asm); (case zz82xb => k_asm); (case zz82xc => k_updF); (case zz82xd => assumption); (case zz82xe => assumption); (case zz82xf => omega); (case zz82xg => assumption); k_whole)); intro h' o' F' N' dc'; (try dsimp only at N' dc' F'); (try k_sweep))
  k_with "setItem ref str" => (k_here; k_dflt (refine' dic_set (knd := PySem.strKind _ _) ?zz83xa ?zz83xb ?zz83xc ?zz83xd (strKind_is _ _ _ _) ?zz83xf ?_; (case zz83xa => k_asm); (case zz83xb => k_asm); (case zz83xc => k_updF); (case zz83xd => assumption); (case zz83xf => omega); k_whole); intro h' o' F' N' dc'; (try dsimp only at N' dc' F'); (try k_sweep))
  k_with "compareOp NotIn" => (k_here; (with_reducible show wpAny _ _ (compareOp CmpOp.NotIn (Value.str _ _) (Value.ref _)) _ _ _); k_dflt (refine' tup_notIn ?zz84xa ?zz84xb ?zz84xc ?zz84xd ?zz84xe ?_; (case zz84xa => k_asm); (case zz84xb => k_asm); (case zz84xc => k_is); (case zz84xd => exact rfl); (case zz84xe => first | exact (rfl : _ = true) | exact (rfl : _ = false) | exact (by decide : _ = true) | exact (by decide : _ = false)); k_whole; (try dsimp only [Bool.not_true, Bool.not_false])))
  k_with "compareOp In" => (k_here; (with_reducible show wpAny _ _ (compareOp CmpOp.In (Value.str _ _) (Value.ref _)) _ _ _); k_dflt (refine' tup_in ?zz85xa ?zz85xb ?zz85xc ?zz85xd ?zz85xe ?_; (case zz85xa => k_asm); (case zz85xb => k_asm); (case zz85xc => k_is); (case zz85xd => exact rfl); (case zz85xe => first | exact (rfl : _ = true) | exact (rfl : _ = false) | exact (by decide : _ = true) | exact (by decide : _ = false)); k_whole))
  k_with "eval ListComp" => (k_here; k_dflt (refine' comp0 ?zz86xF0 ?zz86xhh ?zz86xa ?zz86xb ?zz86xc ?zz86xd ?zz86xe ?_ ?zz86xf; (case zz86xF0 => k_asm); (case zz86xhh => exact rfl); (case zz86xa => exact rfl); (case zz86xb => decide); (case zz86xc => exact rfl); (case zz86xd => decide); (case zz86xe => exact rfl); (case zz86xf => intro _; exact rfl); k_whole))
  k_with "Comp0" => (k_dflt (refine' Comp0.intro ?zz87xa ?zz87xb ?zz87xc ?_; (case zz87xa => k_asm); (case zz87xb => k_asm); (case zz87xc => k_mem)); intro D' c' h' tk' F' N' l1; (try (have nd' := nd_consN l1 (by assumption))); (try k_sweep))
  k_with "exec Assign cons ListComp" => (k_here; k_dflt (refine' comp0A ?zz88xF0 ?zz88xhh ?zz88xsw ?zz88xa ?zz88xb ?zz88xc ?zz88xd ?zz88xe ?zz88xy ?zz88xp ?zz88xL ?_ ?zz88xf; (case zz88xF0 => k_asm); (case zz88xhh => exact rfl); (case zz88xsw => exact rfl); (case zz88xa => exact rfl); (case zz88xb => decide); (case zz88xc => exact rfl); (case zz88xd => decide); (case zz88xe => exact rfl); (case zz88xy => exact rfl); (case zz88xp => exact rfl); (case zz88xL => exact rfl); (case zz88xf => intro _; exact rfl); k_whole))
  k_with "Comp0A" => (k_dflt (refine' Comp0A.intro ?zz89xa ?zz89xb ?zz89xc ?_; (case zz89xa => k_asm); (case zz89xb => k_asm); (case zz89xc => k_mem)); intro D' c' h' tk' F' N' l1; (try (have nd' := nd_consN l1 (by assumption))); (try k_sweep))
  k_with "exec For" => (k_here; k_dflt (refine' For_own ?zz90xF ?zz90xhx ?zz90xhp ?_ ?zz90xhs ?zz90xhE; (case zz90xF => k_asm); (case zz90xhx => exact rfl); (case zz90xhp => exact rfl); (case zz90xhs => intro _; exact rfl); (case zz90xhE => first | passes_own | (subst ek; passes_own) | (unfold ek; passes_own)); k_whole))
  k_with "pyIter ref" => (k_here; k_dflt (refine' iter_none ?zz91xhh ?zz91xF ?zz91xN ?zz91xhl ?_; (case zz91xhh => exact rfl); (case zz91xF => k_asm); (case zz91xN => k_asm); (case zz91xhl => k_mem)); intro u h' tk' F' N'; (try k_sweep))
  trivial



theorem settle_c {w : World} {mean : ExcName → Option Value} {mg mb : Str → Option Value}
    {dp un : Nat} {gd : Option (List Code)} {cn : Str} {cs : Scope} {a : Addr} {ccd : Value} {cl : List (Str × Addr)} {outer : List Env} {A₀ : Around} {base h₀ : Heap} {L : Addr} {m : Str → Option Value} {news : List (Addr × Obj)} {s : Shared}
    {Q E : Value → Shared → Prop} {r dr e de rn : Addr} {odr oe on : Obj} {kr : Str} {tkr : Tok} {par : Value} {rr : Addr} {M : Int} {tM : Tok} {nu : Int} {tnu : Tok} {lv : Int} {tlv : Tok} {pt : Str} {tpt : Tok} {ro rc rh : Addr} {kd nm : Str} {tk tn : Tok} {sv : Value} {ln : Int} {tl : Tok} {reg full : Value} {compl impl : Bool} {home uq nb pa : Value} {n : Nat} {f : Str → Option Value}
    (B : Below A₀ base outer h₀) (F : Fr h₀ L s.heap m) (KX : (Mine.K w.params).In h₀) (T : Top Mine.q0 (looseW Mine.q0 [Str.ofString "Limits"]) mean mg mb h₀) (hk : cs.kind = .function) (N : News h₀ L s.heap news) (nd : (news.map Prod.fst).Nodup) (hd : dp + 10 < recursionLimit) (hu : un + 500 < cLine)
    (hr : (r, instObj 113 dr) ∈ news) (hdr : (dr, odr) ∈ news) (ar : Attrs 16 odr (at_ (regL kr tkr par rr M tM nu tnu lv tlv pt tpt rn ro rc rh)))
    (he : (e, instObj 77 de) ∈ news) (hde : (de, oe) ∈ news) (ae : Attrs 17 oe (at_ (entL kd tk nm tn sv ln tl reg full compl impl home uq nb pa)))
    (hn : (rn, on) ∈ news) (dn : Dic (strKind PySem.Challenge.rw_rg0009_01.row.prog w) on n f) (lo : (rn == sysModules) = false) (hf : f nm = none)
    (hret : ∀ h' tks, Fr h₀ L h' m → News h₀ L h' news → Q .none { s with heap := h', toks := tks }) :
    wpAny (model PySem.Challenge.rw_rg0009_01.row.prog w) (ktrTop dp un gd cn cs L a ccd cl outer) (call (.ref 143) [.ref r, .ref e]) Q E s := by
  (try w_top off); revert KX; k_fill; intro KX
  refine wpAny_call ?_
  (k_extra "ENTER")
  k_steps
  all_goals exact hret _ _ (by k_asm) (by ktr_rel)

end Mine
end
section
open PySem PySem.W PyProof.Rows
namespace Mine
theorem ln9 : True := by
  k_with_none
  k_with "ENTER" => (first | (refine' code_def ?zz111xk1 ?zz111xk2 ?zz111xk3 ?zz111xk4 ?zz111xk5 ?zz111xkA ?zz111xkF ?zz111xkK ?zz111xk6 ?zz111xk7 ?zz111xk8 ?zz111xk9 ?zz111xkB ?_ ?zz111xc2 ?zz111xc3 ?zz111xc4 ?zz111xc5; (case zz111xkA => exact rfl); (case zz111xkF => exact rfl); (case zz111xkK => first | exact rfl | assumption); (case zz111xk1 => k_asm); (case zz111xk2 => k_asm); (case zz111xk3 => k_asm); (case zz111xk4 => k_asm); (case zz111xk5 => k_asm); (case zz111xk6 => k_is); (case zz111xk7 => k_is); (case zz111xk8 => ktr_room); (case zz111xk9 => first | exact BindsTo.of_eq (binds := []) rfl | exact BindsTo.of_eq (binds := [(_, _)]) rfl | exact BindsTo.of_eq (binds := [(_, _), (_, _)]) rfl | exact BindsTo.of_eq (binds := [(_, _), (_, _), (_, _)]) rfl | exact BindsTo.of_eq (binds := [(_, _), (_, _), (_, _), (_, _)]) rfl | exact BindsTo.of_eq (binds := [(_, _), (_, _), (_, _), (_, _), (_, _)]) rfl | exact BindsTo.of_eq (binds := [(_, _), (_, _), (_, _), (_, _), (_, _), (_, _)]) rfl | exact BindsTo.of_eq (binds := [(_, _), (_, _), (_, _), (_, _), (_, _), (_, _), (_, _)]) rfl | exact BindsTo.of_eq (binds := [(_, _), (_, _), (_, _), (_, _), (_, _), (_, _), (_, _), (_, _)]) rfl | exact BindsTo.of_eq (binds := [(_, _), (_, _), (_, _), (_, _), (_, _), (_, _), (_, _), (_, _), (_, _)]) rfl | exact BindsTo.of_eq (binds := [(_, _), (_, _), (_, _), (_, _), (_, _), (_, _), (_, _), (_, _), (_, _), (_, _)]) rfl | exact binds_K (by k_in) rfl (by k_is) rfl rfl rfl); (case zz111xc5 => decide); (case zz111xkB => exact locs rfl); (case zz111xc2 => exact rfl); (case zz111xc3 => exact rfl); (case zz111xc4 => exact rfl); k_whole; intro g' L' h' FG' F' N' B' X' T'; (try dsimp only); (try k_fold)) | (refine' code_defC ?zz111xk1 ?zz111xk2 ?zz111xk3 ?zz111xk4 ?zz111xk5 ?zz111xkA ?zz111xkF ?zz111xkK ?zz111xk6 ?zz111xk7 ?zz111xk8 ?zz111xk9 ?zz111xkB ?zz111xkD ?_ ?zz111xc2 ?zz111xc3 ?zz111xc4; (case zz111xkA => exact rfl); (case zz111xkF => exact rfl); (case zz111xkK => first | exact rfl | assumption); (case zz111xk1 => k_asm); (case zz111xk2 => k_asm); (case zz111xk3 => k_asm); (case zz111xk4 => k_asm); (case zz111xk5 => k_asm); (case zz111xk6 => k_is); (case zz111xk7 => k_is); (case zz111xk8 => ktr_room); (case zz111xk9 => first | exact BindsTo.of_eq (binds := []) rfl | exact BindsTo.of_eq (binds := [(_, _)]) rfl | exact BindsTo.of_eq (binds := [(_, _), (_, _)]) rfl | exact BindsTo.of_eq (binds := [(_, _), (_, _), (_, _)]) rfl | exact BindsTo.of_eq (binds := [(_, _), (_, _), (_, _), (_, _)]) rfl | exact BindsTo.of_eq (binds := [(_, _), (_, _), (_, _), (_, _), (_, _)]) rfl | exact BindsTo.of_eq (binds := [(_, _), (_, _), (_, _), (_, _), (_, _), (_, _)]) rfl | exact BindsTo.of_eq (binds := [(_, _), (_, _), (_, _), (_, _), (_, _), (_, _), (_, _)]) rfl | exact BindsTo.of_eq (binds := [(_, _), (_, _), (_, _), (_, _), (_, _), (_, _), (_, _), (_, _)]) rfl | exact BindsTo.of_eq (binds := [(_, _), (_, _), (_, _), (_, _), (_, _), (_, _), (_, _), (_, _), (_, _)]) rfl | exact BindsTo.of_eq (binds := [(_, _), (_, _), (_, _), (_, _), (_, _), (_, _), (_, _), (_, _), (_, _), (_, _)]) rfl | exact binds_K (by k_in) rfl (by k_is) rfl rfl rfl); (case zz111xkB => exact rfl); (case zz111xkD => decide +kernel); (case zz111xc2 => exact rfl); (case zz111xc3 => exact rfl); (case zz111xc4 => exact rfl); k_whole; intro g' L' h' tk' cells' FG' F' N' Y' B' X' T' l1; k_cells Y'; (try simp only [List.cons_append, List.nil_append] at N'); (try dsimp only); (try k_fold)))
  k_with "call ref" => (k_here; k_dflt (refine' mk_inst ?zz93xk1 ?zz93xk2 ?zz93xk3 ?zz93xk4 ?zz93xk5 ?zz93xk6 ?_; (case zz93xk1 => k_asm); (case zz93xk2 => k_asm); (case zz93xk3 => k_asm); (case zz93xk4 => k_is); (case zz93xk5 => k_is); (case zz93xk6 => k_is); k_whole; intro x' d' o' h' F' N' a' l1 l2; (have nd' := nd_cons2 l1 l2 (by assumption)); (try k_sweep); (k_extra "ENTER")))
  k_with "setAttr ref" => (k_here; k_dflt (refine' at_set ?zz94xk1 ?zz94xk2 ?zz94xk3 ?zz94xk4 ?zz94xk5 ?zz94xk6 ?zz94xk7 ?zz94xk8 ?zz94xk9 ?zz94xk10 ?zz94xk11 ?_; (case zz94xk1 => k_asm); (case zz94xk2 => k_asm); (case zz94xk3 => k_asm); (case zz94xk4 => k_mem); (case zz94xk5 => k_updF); (case zz94xk6 => assumption); (case zz94xk7 => k_is); (case zz94xk8 => k_is); (case zz94xk9 => k_is); (case zz94xk10 => k_is); (case zz94xk11 => exact Nat.le_of_ble_eq_true rfl); k_whole; intro h' o' F' N' a'; (try dsimp only at N' a' F'); (try k_sweep)))
  k_with "setAttr ref" => (k_here; k_dflt (refine' at_again ?zz95xk1 ?zz95xk2 ?zz95xk3 ?zz95xk4 ?zz95xk5 ?zz95xk6 ?zz95xk0 ?zz95xk7 ?zz95xk8 ?zz95xk9 ?zz95xk10 ?zz95xk11 ?_; (case zz95xk1 => k_asm); (case zz95xk2 => k_asm); (case zz95xk3 => k_asm); (case zz95xk4 => k_mem); (case zz95xk5 => k_updF); (case zz95xk6 => assumption); (case zz95xk0 => first | exact rfl | assumption); (case zz95xk7 => k_is); (case zz95xk8 => k_is); (case zz95xk9 => k_is); (case zz95xk10 => k_is); (case zz95xk11 => exact Nat.le_of_ble_eq_true rfl); k_whole; intro h' o' F' N' a'; (try dsimp only at N' a' F'); (try k_sweep)))
  k_with "getAttr ref" => (k_here; k_dflt (refine' at_get ?zz96xk1 ?zz96xk2 ?zz96xk3 ?zz96xk4 ?zz96xk5 ?zz96xk6 ?zz96xk7 ?zz96xk8 ?zz96xk9 ?zz96xk10 ?zz96xk11 ?zz96xk12 ?_; (case zz96xk1 => k_asm); (case zz96xk2 => k_asm); (case zz96xk3 => k_asm); (case zz96xk4 => k_mem); (case zz96xk5 => k_mem); (case zz96xk6 => assumption); (case zz96xk7 => first | exact rfl | assumption); (case zz96xk8 => k_is); (case zz96xk9 => k_is); (case zz96xk10 => k_is); (case zz96xk11 => k_is); (case zz96xk12 => k_handed); k_whole))
  k_with "call type:list" => (k_here; (with_reducible show wpAny _ _ (call (Value.type _) [Value.ref _]) _ _ _); (with_unfolding_all refine' list_copyK ?zz97xk1 ?zz97xk2 ?zz97xk3 ?_ ?zz97xz; (case zz97xk1 => k_asm); (case zz97xk2 => k_asm); (case zz97xk3 => exact News.isList (d := none) (sl := #[]) (by k_asm) (by k_mem)); (case zz97xz => size_fits); k_whole); intro D' c' h' F' N' l1; (have nd' := nd_cons l1 (by assumption)); (try k_sweep))
  k_with "compareOp Eq ref ref" => (k_here; (with_reducible show wpAny _ _ (compareOp CmpOp.Eq (Value.ref _) (Value.ref _)) _ _ _); k_dflt (refine' ke_eq_ints (xs := []) (ys := []) ?zz98xa ?zz98xb .nil .nil ?zz98xu ?_; (case zz98xa => exact News.isList (d := none) (sl := #[]) (items := #[]) (by k_asm) (by k_mem)); (case zz98xb => exact News.isList (d := none) (sl := #[]) (items := #[]) (by k_asm) (by k_mem)); (case zz98xu => ktr_units); k_whole))
  k_with "getMethod ref" => (k_here; k_dflt (first | ((with_reducible show wpAny _ _ (getMethod (Value.ref _) (Str.ofString "get") _) _ _ _); refine' dic_method (knd := PySem.strKind _ _) PySem.F.slot_dict_get PySem.F.type_dict_get ?zz99xa ?zz99xb ?zz99xc ?_; (case zz99xa => k_asm); (case zz99xb => k_mem); (case zz99xc => assumption); k_whole) | ((with_reducible show wpAny _ _ (getMethod (Value.ref _) (Str.ofString "get") _) _ _ _); refine' dic_method (knd := PySem.intKind _ _) PySem.F.slot_dict_get PySem.F.type_dict_get ?zz99xa ?zz99xb ?zz99xc ?_; (case zz99xa => k_asm); (case zz99xb => k_mem); (case zz99xc => assumption); k_whole) | ((with_reducible show wpAny _ _ (getMethod (Value.ref _) (Str.ofString "setdefault") _) _ _ _); refine' dic_method (knd := PySem.strKind _ _) PySem.F.slot_dict_setdefault PySem.F.type_dict_setdefault ?zz99xa ?zz99xb ?zz99xc ?_; (case zz99xa => k_asm); (case zz99xb => k_mem); (case zz99xc => assumption); k_whole) | ((with_reducible show wpAny _ _ (getMethod (Value.ref _) (Str.ofString "setdefault") _) _ _ _); refine' dic_method (knd := PySem.intKind _ _) PySem.F.slot_dict_setdefault PySem.F.type_dict_setdefault ?zz99xa ?zz99xb ?zz99xc ?_; (case zz99xa => k_asm); (case zz99xb => k_mem); (case zz99xc => assumption); k_whole)))
  k_with "call builtin:dict.get" => (k_here; k_dflt (first
  | (refine' dic_get2 (knd := PySem.strKind _ _) ?zz100xa ?zz100xb ?zz100xc ?zz100xd (strKind_is _ _ _ _) ?_; (case zz100xa => k_asm); (case zz100xb => k_mem); (case zz100xc => assumption); (case zz100xd => assumption); k_whole)
  | (refine' dic_get1 (knd := PySem.intKind _ _) ?zz100xa ?zz100xb ?zz100xc ?zz100xd (intKind_is _ _ _ _) ?_; (case zz100xa => k_asm); (case zz100xb => k_mem); (case zz100xc => assumption); (case zz100xd => assumption); k_whole)); (try simp only [Option.getD_none, Option.getD_some, *]))
  k_with "call builtin:dict.setdefault" => (k_here; k_dflt (first
  | (refine' dic_default (knd := PySem.strKind _ _) ?zz101xa ?zz101xb ?zz101xc ?zz101xd ?zz101xe (strKind_is _ _ _ _) ?zz101xf ?zz101xg ?_; (case zz101xa => k_asm); (case zz101xb => k_asm); (case zz101xc => k_updF); (case zz101xd => assumption); (case zz101xe => assumption); (case zz101xf => omega); (case zz101xg => assumption); k_whole)
  | (refine' dic_default (knd := PySem.intKind _ _) ?zz101xa ?zz101xb ?zz101xc ?zz101xd ?zz101xe (intKind_is _ _ _ _) ?zz101xf ?zz101xg ?_; (case zz101xa => k_asm); (case zz101xb => k_asm); (case zz101xc => k_updF); (case zz101xd => assumption); (case zz101xe => assumption); (case zz101xf => omega); (case zz101xg => assumption); k_whole)); intro h' o' F' N' dc'; (try dsimp only at N' dc' F'); (try k_sweep))
  k_with "setItem ref str" => (k_here; k_dflt (refine' dic_set (knd := PySem.strKind _ _) ?zz102xa ?zz102xb ?zz102xc ?zz102xd (strKind_is _ _ _ _) ?zz102xf ?_; (case zz102xa => k_asm); (case zz102xb => k_asm); (case zz102xc => k_updF); (case zz102xd => assumption); (case zz102xf => omega); k_whole); intro h' o' F' N' dc'; (try dsimp only at N' dc' F'); (try k_sweep))
  k_with "eval ListComp" => (k_here; k_dflt (refine' comp0 ?zz103xF0 ?zz103xhh ?zz103xa ?zz103xb ?zz103xc ?zz103xd ?zz103xe ?_ ?zz103xf; (case zz103xF0 => k_asm); (case zz103xhh => exact rfl); (case zz103xa => exact rfl); (case zz103xb => decide); (case zz103xc => exact rfl); (case zz103xd => decide); (case zz103xe => exact rfl); (case zz103xf => intro _; exact rfl); k_whole))
  k_with "Comp0" => (k_dflt (refine' Comp0.intro ?zz104xa ?zz104xb ?zz104xc ?_; (case zz104xa => k_asm); (case zz104xb => k_asm); (case zz104xc => k_mem)); intro D' c' h' tk' F' N' l1; (try (have nd' := nd_consN l1 (by assumption))); (try k_sweep))
  k_with "exec Assign cons ListComp" => (k_here; k_dflt (refine' comp0A ?zz105xF0 ?zz105xhh ?zz105xsw ?zz105xa ?zz105xb ?zz105xc ?zz105xd ?zz105xe ?zz105xy ?zz105xp ?zz105xL ?_ ?zz105xf; (case zz105xF0 => k_asm); (case zz105xhh => exact rfl); (case zz105xsw => exact rfl); (case zz105xa => exact rfl); (case zz105xb => decide); (case zz105xc => exact rfl); (case zz105xd => decide); (case zz105xe => exact rfl); (case zz105xy => exact rfl); (case zz105xp => exact rfl); (case zz105xL => exact rfl); (case zz105xf => intro _; exact rfl); k_whole))
  k_with "Comp0A" => (k_dflt (refine' Comp0A.intro ?zz106xa ?zz106xb ?zz106xc ?_; (case zz106xa => k_asm); (case zz106xb => k_asm); (case zz106xc => k_mem)); intro D' c' h' tk' F' N' l1; (try (have nd' := nd_consN l1 (by assumption))); (try k_sweep))
  k_with "exec For" => (k_here; k_dflt (refine' For_own ?zz107xF ?zz107xhx ?zz107xhp ?_ ?zz107xhs ?zz107xhE; (case zz107xF => k_asm); (case zz107xhx => exact rfl); (case zz107xhp => exact rfl); (case zz107xhs => intro _; exact rfl); (case zz107xhE => first | passes_own | (subst ek; passes_own) | (unfold ek; passes_own)); k_whole))
  k_with "pyIter ref" => (k_here; k_dflt (refine' iter_none ?zz108xhh ?zz108xF ?zz108xN ?zz108xhl ?_; (case zz108xhh => exact rfl); (case zz108xF => k_asm); (case zz108xN => k_asm); (case zz108xhl => k_mem)); intro u h' tk' F' N'; (try k_sweep))
  k_with "call ref" => (k_here; (with_reducible show wpAny _ _ (call (Value.ref 131) _ _) _ _ _); k_dflt (refine' frame_c ?zz109xq1 ?zz109xq2 ?zz109xq3 ?zz109xq4 ?zz109xB ?zz109xF ?zz109xKX ?zz109xT ?zz109xhk ?zz109xN ?zz109xhd ?zz109xhu ?_; (case zz109xB => k_asm); (case zz109xF => k_asm); (case zz109xKX => k_asm); (case zz109xT => k_asm); (case zz109xhk => first | exact rfl | assumption); (case zz109xN => k_asm); (case zz109xhd => ktr_room); (case zz109xhu => ktr_units); (case zz109xq4 => refine Chain.sub ?_ (by assumption); (intro p hp; repeat (first | exact hp | apply List.Mem.tail))); (case zz109xq1 => k_mem); (case zz109xq2 => k_mem); (case zz109xq3 => first | assumption | (refine Attrs.pick (by assumption) ?_; repeat' (first | exact List.forall_mem_nil _ | refine List.forall_mem_cons.mpr ⟨rfl, ?_⟩))); k_whole; intro h' tk' F' N'; (try dsimp only at *); (try k_sweep)))
  k_with "call ref" => (k_here; (with_reducible show wpAny _ _ (call (Value.ref 95) _ _) _ _ _); k_dflt (refine' uniq_c ?zz110xB ?zz110xF ?zz110xKX ?zz110xT ?zz110xhk ?zz110xN ?zz110xhd ?zz110xhu ?zz110xq1 ?zz110xq2 ?zz110xq3 ?_; (case zz110xB => k_asm); (case zz110xF => k_asm); (case zz110xKX => k_asm); (case zz110xT => k_asm); (case zz110xhk => first | exact rfl | assumption); (case zz110xN => k_asm); (case zz110xhd => ktr_room); (case zz110xhu => ktr_units); (case zz110xq1 => omega); (case zz110xq2 => omega); (case zz110xq3 => assumption); k_whole; intro x' tk' h' tks' F' N'; (try dsimp only at *); (try k_sweep)))
  trivial



theorem give_c {w : World} {mean : ExcName → Option Value} {mg mb : Str → Option Value}
    {dp un : Nat} {gd : Option (List Code)} {cn : Str} {cs : Scope} {a : Addr} {ccd : Value} {cl : List (Str × Addr)} {outer : List Env} {A₀ : Around} {base h₀ : Heap} {L : Addr} {m : Str → Option Value} {news : List (Addr × Obj)} {s : Shared}
    {Q E : Value → Shared → Prop} {r : Addr} {rr drr : Addr} {odrr : Obj} {tkrr tMr tnurr tlvrr tptrr : Tok} {parr : Value} {ptrr : Str} {Mr nurr lvrr : Int} {rnrr rorr ca ta : Addr} {e de : Addr} {oe : Obj} {kd nm : Str} {tk tn : Tok} {sv : Value} {ln : Int} {tl : Tok} {reg full : Value} {compl impl : Bool} {home uq nb pa : Value} {oc : Obj} {b nc n : Nat} {fc : Str → Option Value} (hrr : (rr, instObj 113 drr) ∈ news) (arr : Attrs 16 odrr (at_ (regL "root" tkrr parr rr Mr tMr nurr tnurr lvrr tlvrr ptrr tptrr rnrr rorr ca ta))) (he : (e, instObj 77 de) ∈ news) (ae : Attrs 17 oe (at_ (entL kd tk nm tn sv ln tl reg full compl impl home uq nb pa))) (hc : Chain news rr n r)
    (dc : Dic (strKind PySem.Challenge.rw_rg0009_01.row.prog w) oc nc fc) (hcn : ∀ x v, fc x = some v → ∃ c t, v = Value.int c t ∧ 0 ≤ c ∧ c ≤ b) (lo : (ca == sysModules) = false) (hb : b ≤ 1000) (hnc : nc ≤ 1000)
    (hkd : (kd == Str.ofString "exception") = false) (hnm : nm.length ≤ 10)
    (B : Below A₀ base outer h₀) (F : Fr h₀ L s.heap m) (KX : (Mine.K w.params).In h₀) (T : Top Mine.q0 (looseW Mine.q0 [Str.ofString "Limits"]) mean mg mb h₀) (hk : cs.kind = .function) (N : News h₀ L s.heap ((de, oe) :: (drr, odrr) :: (ca, oc) :: news)) (nd : (((de, oe) :: (drr, odrr) :: (ca, oc) :: news).map Prod.fst).Nodup) (hd : dp + 20 < recursionLimit) (hu : un + 600 < cLine)
    (hret : ∀ oe' oc' fc' uq' h' tks, Fr h₀ L h' m → News h₀ L h' ((de, oe') :: (drr, odrr) :: (ca, oc') :: news) → Attrs 17 oe' (at_ (entL kd tk nm tn sv ln tl reg full compl impl home uq' nb pa)) →
      Dic (strKind PySem.Challenge.rw_rg0009_01.row.prog w) oc' (nc + 1) fc' → (∀ x v, fc' x = some v → ∃ c t, v = Value.int c t ∧ 0 ≤ c ∧ c ≤ ((b + 1 : Nat) : Int)) → Q .none { s with heap := h', toks := tks }) :
    wpAny (model PySem.Challenge.rw_rg0009_01.row.prog w) (ktrTop dp un gd cn cs L a ccd cl outer) (call (.ref 138) [.ref r, .ref e]) Q E s := by
  (try w_top off); revert KX; k_fill; intro KX
  cases hf : fc nm with
  | none =>
    refine wpAny_call ?_
    (k_extra "ENTER")
    k_steps
    all_goals exact hret _ _ _ _ _ _ (by k_asm) (by ktr_rel) (by refine Attrs.pick (by assumption) ?_; repeat' (first | exact List.forall_mem_nil _ | refine List.forall_mem_cons.mpr ⟨rfl, ?_⟩)) (by assumption) (cnt_next hcn (by omega) (by omega))
  | some v0 =>
    obtain ⟨c0, t0, rfl, hc0, hc1⟩ := hcn _ _ hf
    refine wpAny_call ?_
    (k_extra "ENTER")
    k_steps
    all_goals exact hret _ _ _ _ _ _ (by k_asm) (by ktr_rel) (by refine Attrs.pick (by assumption) ?_; repeat' (first | exact List.forall_mem_nil _ | refine List.forall_mem_cons.mpr ⟨rfl, ?_⟩)) (by assumption) (cnt_next hcn (by omega) (by omega))

end Mine
end
section
open PySem PySem.W PyProof.Rows
namespace Mine
theorem ln10 : True := by
  k_with_none
  k_with "ENTER" => (first | (refine' code_def ?zz132xk1 ?zz132xk2 ?zz132xk3 ?zz132xk4 ?zz132xk5 ?zz132xkA ?zz132xkF ?zz132xkK ?zz132xk6 ?zz132xk7 ?zz132xk8 ?zz132xk9 ?zz132xkB ?_ ?zz132xc2 ?zz132xc3 ?zz132xc4 ?zz132xc5; (case zz132xkA => exact rfl); (case zz132xkF => exact rfl); (case zz132xkK => first | exact rfl | assumption); (case zz132xk1 => k_asm); (case zz132xk2 => k_asm); (case zz132xk3 => k_asm); (case zz132xk4 => k_asm); (case zz132xk5 => k_asm); (case zz132xk6 => k_is); (case zz132xk7 => k_is); (case zz132xk8 => ktr_room); (case zz132xk9 => first | exact BindsTo.of_eq (binds := []) rfl | exact BindsTo.of_eq (binds := [(_, _)]) rfl | exact BindsTo.of_eq (binds := [(_, _), (_, _)]) rfl | exact BindsTo.of_eq (binds := [(_, _), (_, _), (_, _)]) rfl | exact BindsTo.of_eq (binds := [(_, _), (_, _), (_, _), (_, _)]) rfl | exact BindsTo.of_eq (binds := [(_, _), (_, _), (_, _), (_, _), (_, _)]) rfl | exact BindsTo.of_eq (binds := [(_, _), (_, _), (_, _), (_, _), (_, _), (_, _)]) rfl | exact BindsTo.of_eq (binds := [(_, _), (_, _), (_, _), (_, _), (_, _), (_, _), (_, _)]) rfl | exact BindsTo.of_eq (binds := [(_, _), (_, _), (_, _), (_, _), (_, _), (_, _), (_, _), (_, _)]) rfl | exact BindsTo.of_eq (binds := [(_, _), (_, _), (_, _), (_, _), (_, _), (_, _), (_, _), (_, _), (_, _)]) rfl | exact BindsTo.of_eq (binds := [(_, _), (_, _), (_, _), (_, _), (_, _), (_, _), (_, _), (_, _), (_, _), (_, _)]) rfl | exact binds_K (by k_in) rfl (by k_is) rfl rfl rfl); (case zz132xc5 => decide); (case zz132xkB => exact locs rfl); (case zz132xc2 => exact rfl); (case zz132xc3 => exact rfl); (case zz132xc4 => exact rfl); k_whole; intro g' L' h' FG' F' N' B' X' T'; (try dsimp only); (try k_fold)) | (refine' code_defC ?zz132xk1 ?zz132xk2 ?zz132xk3 ?zz132xk4 ?zz132xk5 ?zz132xkA ?zz132xkF ?zz132xkK ?zz132xk6 ?zz132xk7 ?zz132xk8 ?zz132xk9 ?zz132xkB ?zz132xkD ?_ ?zz132xc2 ?zz132xc3 ?zz132xc4; (case zz132xkA => exact rfl); (case zz132xkF => exact rfl); (case zz132xkK => first | exact rfl | assumption); (case zz132xk1 => k_asm); (case zz132xk2 => k_asm); (case zz132xk3 => k_asm); (case zz132xk4 => k_asm); (case zz132xk5 => k_asm); (case zz132xk6 => k_is); (case zz132xk7 => k_is); (case zz132xk8 => ktr_room); (case zz132xk9 => first | exact BindsTo.of_eq (binds := []) rfl | exact BindsTo.of_eq (binds := [(_, _)]) rfl | exact BindsTo.of_eq (binds := [(_, _), (_, _)]) rfl | exact BindsTo.of_eq (binds := [(_, _), (_, _), (_, _)]) rfl | exact BindsTo.of_eq (binds := [(_, _), (_, _), (_, _), (_, _)]) rfl | exact BindsTo.of_eq (binds := [(_, _), (_, _), (_, _), (_, _), (_, _)]) rfl | exact BindsTo.of_eq (binds := [(_, _), (_, _), (_, _), (_, _), (_, _), (_, _)]) rfl | exact BindsTo.of_eq (binds := [(_, _), (_, _), (_, _), (_, _), (_, _), (_, _), (_, _)]) rfl | exact BindsTo.of_eq (binds := [(_, _), (_, _), (_, _), (_, _), (_, _), (_, _), (_, _), (_, _)]) rfl | exact BindsTo.of_eq (binds := [(_, _), (_, _), (_, _), (_, _), (_, _), (_, _), (_, _), (_, _), (_, _)]) rfl | exact BindsTo.of_eq (binds := [(_, _), (_, _), (_, _), (_, _), (_, _), (_, _), (_, _), (_, _), (_, _), (_, _)]) rfl | exact binds_K (by k_in) rfl (by k_is) rfl rfl rfl); (case zz132xkB => exact rfl); (case zz132xkD => decide +kernel); (case zz132xc2 => exact rfl); (case zz132xc3 => exact rfl); (case zz132xc4 => exact rfl); k_whole; intro g' L' h' tk' cells' FG' F' N' Y' B' X' T' l1; k_cells Y'; (try simp only [List.cons_append, List.nil_append] at N'); (try dsimp only); (try k_fold)))
  k_with "call ref" => (k_here; k_dflt (refine' mk_inst ?zz112xk1 ?zz112xk2 ?zz112xk3 ?zz112xk4 ?zz112xk5 ?zz112xk6 ?_; (case zz112xk1 => k_asm); (case zz112xk2 => k_asm); (case zz112xk3 => k_asm); (case zz112xk4 => k_is); (case zz112xk5 => k_is); (case zz112xk6 => k_is); k_whole; intro x' d' o' h' F' N' a' l1 l2; (have nd' := nd_cons2 l1 l2 (by assumption)); (try k_sweep); (k_extra "ENTER")))
  k_with "setAttr ref" => (k_here; k_dflt (refine' at_set ?zz113xk1 ?zz113xk2 ?zz113xk3 ?zz113xk4 ?zz113xk5 ?zz113xk6 ?zz113xk7 ?zz113xk8 ?zz113xk9 ?zz113xk10 ?zz113xk11 ?_; (case zz113xk1 => k_asm); (case zz113xk2 => k_asm); (case zz113xk3 => k_asm); (case zz113xk4 => k_mem); (case zz113xk5 => k_updF); (case zz113xk6 => assumption); (case zz113xk7 => k_is); (case zz113xk8 => k_is); (case zz113xk9 => k_is); (case zz113xk10 => k_is); (case zz113xk11 => exact Nat.le_of_ble_eq_true rfl); k_whole; intro h' o' F' N' a'; (try dsimp only at N' a' F'); (try k_sweep)))
  k_with "setAttr ref" => (k_here; k_dflt (refine' at_again ?zz114xk1 ?zz114xk2 ?zz114xk3 ?zz114xk4 ?zz114xk5 ?zz114xk6 ?zz114xk0 ?zz114xk7 ?zz114xk8 ?zz114xk9 ?zz114xk10 ?zz114xk11 ?_; (case zz114xk1 => k_asm); (case zz114xk2 => k_asm); (case zz114xk3 => k_asm); (case zz114xk4 => k_mem); (case zz114xk5 => k_updF); (case zz114xk6 => assumption); (case zz114xk0 => first | exact rfl | assumption); (case zz114xk7 => k_is); (case zz114xk8 => k_is); (case zz114xk9 => k_is); (case zz114xk10 => k_is); (case zz114xk11 => exact Nat.le_of_ble_eq_true rfl); k_whole; intro h' o' F' N' a'; (try dsimp only at N' a' F'); (try k_sweep)))
  k_with "getAttr ref" => (k_here; k_dflt (refine' at_get ?zz115xk1 ?zz115xk2 ?zz115xk3 ?zz115xk4 ?zz115xk5 ?zz115xk6 ?zz115xk7 ?zz115xk8 ?zz115xk9 ?zz115xk10 ?zz115xk11 ?zz115xk12 ?_; (case zz115xk1 => k_asm); (case zz115xk2 => k_asm); (case zz115xk3 => k_asm); (case zz115xk4 => k_mem); (case zz115xk5 => k_mem); (case zz115xk6 => assumption); (case zz115xk7 => first | exact rfl | assumption); (case zz115xk8 => k_is); (case zz115xk9 => k_is); (case zz115xk10 => k_is); (case zz115xk11 => k_is); (case zz115xk12 => k_handed); k_whole))
  k_with "call type:list" => (k_here; (with_reducible show wpAny _ _ (call (Value.type _) [Value.ref _]) _ _ _); (with_unfolding_all refine' list_copyK ?zz116xk1 ?zz116xk2 ?zz116xk3 ?_ ?zz116xz; (case zz116xk1 => k_asm); (case zz116xk2 => k_asm); (case zz116xk3 => exact News.isList (d := none) (sl := #[]) (by k_asm) (by k_mem)); (case zz116xz => size_fits); k_whole); intro D' c' h' F' N' l1; (have nd' := nd_cons l1 (by assumption)); (try k_sweep))
  k_with "compareOp Eq ref ref" => (k_here; (with_reducible show wpAny _ _ (compareOp CmpOp.Eq (Value.ref _) (Value.ref _)) _ _ _); k_dflt (refine' ke_eq_ints (xs := []) (ys := []) ?zz117xa ?zz117xb .nil .nil ?zz117xu ?_; (case zz117xa => exact News.isList (d := none) (sl := #[]) (items := #[]) (by k_asm) (by k_mem)); (case zz117xb => exact News.isList (d := none) (sl := #[]) (items := #[]) (by k_asm) (by k_mem)); (case zz117xu => ktr_units); k_whole))
  k_with "getMethod ref" => (k_here; k_dflt (first | ((with_reducible show wpAny _ _ (getMethod (Value.ref _) (Str.ofString "get") _) _ _ _); refine' dic_method (knd := PySem.strKind _ _) PySem.F.slot_dict_get PySem.F.type_dict_get ?zz118xa ?zz118xb ?zz118xc ?_; (case zz118xa => k_asm); (case zz118xb => k_mem); (case zz118xc => assumption); k_whole) | ((with_reducible show wpAny _ _ (getMethod (Value.ref _) (Str.ofString "get") _) _ _ _); refine' dic_method (knd := PySem.intKind _ _) PySem.F.slot_dict_get PySem.F.type_dict_get ?zz118xa ?zz118xb ?zz118xc ?_; (case zz118xa => k_asm); (case zz118xb => k_mem); (case zz118xc => assumption); k_whole) | ((with_reducible show wpAny _ _ (getMethod (Value.ref _) (Str.ofString "setdefault") _) _ _ _); refine' dic_method (knd := PySem.strKind _ _) PySem.F.slot_dict_setdefault PySem.F.type_dict_setdefault ?zz118xa ?zz118xb ?zz118xc ?_; (case zz118xa => k_asm); (case zz118xb => k_mem); (case zz118xc => assumption); k_whole) | ((with_reducible show wpAny _ _ (getMethod (Value.ref _) (Str.ofString "setdefault") _) _ _ _); refine' dic_method (knd := PySem.intKind _ _) PySem.F.slot_dict_setdefault PySem.F.type_dict_setdefault ?zz118xa ?zz118xb ?zz118xc ?_; (case zz118xa => k_asm); (case zz118xb => k_mem); (case zz118xc => assumption); k_whole)))
  k_with "call builtin:dict.get" => (k_here; k_dflt (first
  | (refine' dic_get2 (knd := PySem.strKind _ _) ?zz119xa ?zz119xb ?zz119xc ?zz119xd (strKind_is _ _ _ _) ?_; (case zz119xa => k_asm); (case zz119xb => k_mem); (case zz119xc => assumption); (case zz119xd => assumption); k_whole)
  | (refine' dic_get1 (knd := PySem.intKind _ _) ?zz119xa ?zz119xb ?zz119xc ?zz119xd (intKind_is _ _ _ _) ?_; (case zz119xa => k_asm); (case zz119xb => k_mem); (case zz119xc => assumption); (case zz119xd => assumption); k_whole)); (try simp only [Option.getD_none, Option.getD_some, *]))
  k_with "call builtin:dict.setdefault" => (k_here; k_dflt (first
  | (refine' dic_default (knd := PySem.strKind _ _) ?zz120xa ?zz120xb ?zz120xc ?zz120xd ?zz120xe (strKind_is _ _ _ _) ?zz120xf ?zz120xg ?_; (case zz120xa => k_asm); (case zz120xb => k_asm); (case zz120xc => k_updF); (case zz120xd => assumption); (case zz120xe => assumption); (case zz120xf => omega); (case zz120xg => assumption); k_whole)
  | (refine' dic_default (knd := PySem.intKind _ _) ?zz120xa ?zz120xb ?zz120xc ?zz120xd ?zz120xe (intKind_is _ _ _ _) ?zz120xf ?zz120xg ?_; (case zz120xa => k_asm); (case zz120xb => k_asm); (case zz120xc => k_updF); (case zz120xd => assumption); (case zz120xe => assumption); (case zz120xf => omega); (case zz120xg => assumption); k_whole)); intro h' o' F' N' dc'; (try dsimp only at N' dc' F'); (try k_sweep))
  k_with "setItem ref str" => (k_here; k_dflt (refine' dic_set (knd := PySem.strKind _ _) ?zz121xa ?zz121xb ?zz121xc ?zz121xd (strKind_is _ _ _ _) ?zz121xf ?_; (case zz121xa => k_asm); (case zz121xb => k_asm); (case zz121xc => k_updF); (case zz121xd => assumption); (case zz121xf => omega); k_whole); intro h' o' F' N' dc'; (try dsimp only at N' dc' F'); (try k_sweep))
  k_with "eval ListComp" => (k_here; k_dflt (refine' comp0 ?zz122xF0 ?zz122xhh ?zz122xa ?zz122xb ?zz122xc ?zz122xd ?zz122xe ?_ ?zz122xf; (case zz122xF0 => k_asm); (case zz122xhh => exact rfl); (case zz122xa => exact rfl); (case zz122xb => decide); (case zz122xc => exact rfl); (case zz122xd => decide); (case zz122xe => exact rfl); (case zz122xf => intro _; exact rfl); k_whole))
  k_with "Comp0" => (k_dflt (refine' Comp0.intro ?zz123xa ?zz123xb ?zz123xc ?_; (case zz123xa => k_asm); (case zz123xb => k_asm); (case zz123xc => k_mem)); intro D' c' h' tk' F' N' l1; (try (have nd' := nd_consN l1 (by assumption))); (try k_sweep))
  k_with "exec Assign cons ListComp" => (k_here; k_dflt (refine' comp0A ?zz124xF0 ?zz124xhh ?zz124xsw ?zz124xa ?zz124xb ?zz124xc ?zz124xd ?zz124xe ?zz124xy ?zz124xp ?zz124xL ?_ ?zz124xf; (case zz124xF0 => k_asm); (case zz124xhh => exact rfl); (case zz124xsw => exact rfl); (case zz124xa => exact rfl); (case zz124xb => decide); (case zz124xc => exact rfl); (case zz124xd => decide); (case zz124xe => exact rfl); (case zz124xy => exact rfl); (case zz124xp => exact rfl); (case zz124xL => exact rfl); (case zz124xf => intro _; exact rfl); k_whole))
  k_with "Comp0A" => (k_dflt (refine' Comp0A.intro ?zz125xa ?zz125xb ?zz125xc ?_; (case zz125xa => k_asm); (case zz125xb => k_asm); (case zz125xc => k_mem)); intro D' c' h' tk' F' N' l1; (try (have nd' := nd_consN l1 (by assumption))); (try k_sweep))
  k_with "exec For" => (k_here; k_dflt (refine' For_own ?zz126xF ?zz126xhx ?zz126xhp ?_ ?zz126xhs ?zz126xhE; (case zz126xF => k_asm); (case zz126xhx => exact rfl); (case zz126xhp => exact rfl); (case zz126xhs => intro _; exact rfl); (case zz126xhE => first | passes_own | (subst ek; passes_own) | (unfold ek; passes_own)); k_whole))
  k_with "pyIter ref" => (k_here; k_dflt (refine' iter_none ?zz127xhh ?zz127xF ?zz127xN ?zz127xhl ?_; (case zz127xhh => exact rfl); (case zz127xF => k_asm); (case zz127xN => k_asm); (case zz127xhl => k_mem)); intro u h' tk' F' N'; (try k_sweep))
  k_with "compareOp In str str" => (k_here; k_dflt (refine' dot_in ?zz128xq ?_; (case zz128xq => exact Nice.dot (by assumption)); k_whole))
  k_with "call builtin:list.append" => (k_here; (with_reducible show wpAny _ _ (call (Value.builtin _) [Value.ref _, _]) _ _ _); k_dflt (refine' append_K ?zz129xk1 ?zz129xk2 ?zz129xk3 ?_ ?zz129xz; (case zz129xk1 => k_asm); (case zz129xk2 => k_asm); (case zz129xk3 => k_upd); (case zz129xz => first | size_fits | (rw [sizeLine_eq]; omega)); k_whole); intro h' F' N'; (try k_sweep))
  k_with "call ref" => (k_here; (with_reducible show wpAny _ _ (call (Value.ref 143) _ _) _ _ _); k_dflt (refine' settle_c ?zz130xB ?zz130xF ?zz130xKX ?zz130xT ?zz130xhk ?zz130xN ?zz130xnd ?zz130xhd ?zz130xhu ?zz130xq1 ?zz130xq2 ?zz130xq3 ?zz130xq4 ?zz130xq5 ?zz130xq6 ?zz130xq7 ?zz130xq8 ?zz130xq9 ?zz130xq10 ?_; (case zz130xB => k_asm); (case zz130xF => k_asm); (case zz130xKX => k_asm); (case zz130xT => k_asm); (case zz130xhk => first | exact rfl | assumption); (case zz130xN => k_asm); (case zz130xhd => ktr_room); (case zz130xhu => ktr_units); (case zz130xq1 => k_mem); (case zz130xq2 => k_mem); (case zz130xq4 => k_mem); (case zz130xq5 => k_mem); (case zz130xq3 => first | assumption | (refine Attrs.pick (by assumption) ?_; repeat' (first | exact List.forall_mem_nil _ | refine List.forall_mem_cons.mpr ⟨rfl, ?_⟩))); (case zz130xq6 => first | assumption | (refine Attrs.pick (by assumption) ?_; repeat' (first | exact List.forall_mem_nil _ | refine List.forall_mem_cons.mpr ⟨rfl, ?_⟩))); (case zz130xq7 => k_mem); (case zz130xq8 => assumption); (case zz130xnd => assumption); (case zz130xq9 => assumption); (case zz130xq10 => assumption); k_whole; intro h' tk' F' N'; (try dsimp only at *); (try k_sweep)))
  k_with "call ref" => (k_here; (with_reducible show wpAny _ _ (call (Value.ref 138) _ _) _ _ _); k_dflt (refine' give_c ?zz131xq1 ?zz131xq3 ?zz131xq4 ?zz131xq5 ?zz131xq6 ?zz131xq7 ?zz131xq8 ?zz131xq9 ?zz131xq10 ?zz131xq11 ?zz131xq12 ?zz131xq13 ?zz131xB ?zz131xF ?zz131xKX ?zz131xT ?zz131xhk ?zz131xN ?zz131xnd ?zz131xhd ?zz131xhu ?_; (case zz131xB => k_asm); (case zz131xF => k_asm); (case zz131xKX => k_asm); (case zz131xT => k_asm); (case zz131xhk => first | exact rfl | assumption); (case zz131xN => k_asm); (case zz131xhd => ktr_room); (case zz131xhu => ktr_units); (case zz131xq6 => refine Chain.sub ?_ (by assumption); (intro p hp; repeat (first | exact hp | apply List.Mem.tail))); (case zz131xq1 => k_mem); (case zz131xq4 => k_mem); (case zz131xq3 => first | assumption | (refine Attrs.pick (by assumption) ?_; repeat' (first | exact List.forall_mem_nil _ | refine List.forall_mem_cons.mpr ⟨rfl, ?_⟩))); (case zz131xq5 => first | assumption | (refine Attrs.pick (by assumption) ?_; repeat' (first | exact List.forall_mem_nil _ | refine List.forall_mem_cons.mpr ⟨rfl, ?_⟩))); (case zz131xq7 => assumption); (case zz131xq8 => assumption); (case zz131xq9 => assumption); (case zz131xq10 => omega); (case zz131xq11 => omega); (case zz131xq12 => assumption); (case zz131xq13 => exact Nice.len (by assumption)); (case zz131xnd => assumption); k_whole; intro oe' oc' fc' uq' h' tk' F' N' ae' dc' hcn'; (try dsimp only at *); (try k_sweep)))
  trivial



theorem decl_sub {w : World} {mean : ExcName → Option Value} {mg mb : Str → Option Value}
    {dp un : Nat} {gd : Option (List Code)} {cn : Str} {cs : Scope} {a : Addr} {ccd : Value} {cl : List (Str × Addr)} {outer : List Env} {A₀ : Around} {base h₀ : Heap} {L : Addr} {m : Str → Option Value} {news : List (Addr × Obj)} {s : Shared}
    {Q E : Value → Shared → Prop} {rr drr : Addr} {odrr : Obj} {tkrr tMr tnurr tlvrr tptrr : Tok} {parr : Value} {ptrr : Str} {Mr nurr lvrr : Int} {rnrr rorr ca ta : Addr} {e de : Addr} {oe : Obj} {kd nm : Str} {tk tn : Tok} {sv : Value} {ln : Int} {tl : Tok} {reg full : Value} {compl impl : Bool} {home uq nb pa : Value} {r dr : Addr} {odr : Obj} {tkr tM1 tnu tlv tpt : Tok} {par : Addr} {M1 nu lv : Int} {pt : Str} {rc rh : Addr} {n : Nat} {na oa : Addr} {oc on : Obj} {b nc nn co : Nat} {items : Array Value} {fc fn : Str → Option Value}
    (hrr : (rr, instObj 113 drr) ∈ news) (arr : Attrs 16 odrr (at_ (regL "root" tkrr parr rr Mr tMr nurr tnurr lvrr tlvrr ptrr tptrr rnrr rorr ca ta))) (he : (e, instObj 77 de) ∈ news) (ae : Attrs 17 oe (at_ (entL kd tk nm tn sv ln tl reg full compl impl home uq nb pa)))
    (hr : (r, instObj 113 dr) ∈ news) (hdr : (dr, odr) ∈ news) (ar : Attrs 16 odr (at_ (regL "package" tkr (.ref par) rr M1 tM1 nu tnu lv tlv pt tpt na oa rc rh))) (hc : Chain news rr n r)
    (dc : Dic (strKind PySem.Challenge.rw_rg0009_01.row.prog w) oc nc fc) (hcn : ∀ x v, fc x = some v → ∃ c t, v = Value.int c t ∧ 0 ≤ c ∧ c ≤ b) (lo : (ca == sysModules) = false) (hb : b ≤ 1000) (hnc : nc ≤ 1000)
    (dn : Dic (strKind PySem.Challenge.rw_rg0009_01.row.prog w) on nn fn) (hf : fn nm = none) (lon : (na == sysModules) = false) (hnn : nn ≤ 1000) (hit : items.size ≤ 1000)
    (hkd : (kd == Str.ofString "exception") = false) (hnm : Nice nm) (hM0 : 0 ≤ Mr) (hM1 : Mr ≤ 10000)
    (B : Below A₀ base outer h₀) (F : Fr h₀ L s.heap m) (KX : (Mine.K w.params).In h₀) (T : Top Mine.q0 (looseW Mine.q0 [Str.ofString "Limits"]) mean mg mb h₀) (hk : cs.kind = .function) (N : News h₀ L s.heap ((de, oe) :: (drr, odrr) :: (ca, oc) :: (na, on) :: (oa, PySem.W.listOf items co) :: news)) (nd : (((de, oe) :: (drr, odrr) :: (ca, oc) :: (na, on) :: (oa, PySem.W.listOf items co) :: news).map Prod.fst).Nodup) (hd : dp + 30 < recursionLimit) (hu : un + 700 < cLine)
    (hret : ∀ oe' odrr' oc' on' fc' fn' uq' nb' pa' tM' l c' h' tks, Fr h₀ L h' m → News h₀ L h' ((de, oe') :: (drr, odrr') :: (ca, oc') :: (na, on') :: (oa, PySem.W.listOf (items.push (.ref e)) c') :: news) → Attrs 17 oe' (at_ (entL kd tk nm tn sv ln tl reg full compl impl (.ref r) uq' nb' pa')) → Attrs 16 odrr' (at_ (regL "root" tkrr parr rr (Mr + 1) tM' nurr tnurr lvrr tlvrr ptrr tptrr rnrr rorr ca ta)) →
      Dic (strKind PySem.Challenge.rw_rg0009_01.row.prog w) oc' (nc + 1) fc' → (∀ x v, fc' x = some v → ∃ c t, v = Value.int c t ∧ 0 ≤ c ∧ c ≤ ((b + 1 : Nat) : Int)) →
      Dic (strKind PySem.Challenge.rw_rg0009_01.row.prog w) on' (nn + 1) fn' → fn' = (fun x => if x = nm then some l else fn x) → Q .none { s with heap := h', toks := tks }) :
    wpAny (model PySem.Challenge.rw_rg0009_01.row.prog w) (ktrTop dp un gd cn cs L a ccd cl outer) (call (.ref 150) [.ref r, .ref e]) Q E s := by
  (try w_top off); revert KX; k_fill; intro KX
  refine wpAny_call ?_
  (k_extra "ENTER")
  k_steps
  all_goals exact hret _ _ _ _ _ _ _ _ _ _ _ _ _ _ (by k_asm) (by ktr_rel) (by refine Attrs.pick (by assumption) ?_; repeat' (first | exact List.forall_mem_nil _ | refine List.forall_mem_cons.mpr ⟨rfl, ?_⟩)) (by refine Attrs.pick (by assumption) ?_; repeat' (first | exact List.forall_mem_nil _ | refine List.forall_mem_cons.mpr ⟨rfl, ?_⟩)) (by assumption) (by assumption) (by assumption) rfl

end Mine
end
section
open PySem PySem.W PyProof.Rows
namespace Mine
theorem ln11 : True := by
  k_with_none
  k_with "ENTER" => (first | (refine' code_def ?zz153xk1 ?zz153xk2 ?zz153xk3 ?zz153xk4 ?zz153xk5 ?zz153xkA ?zz153xkF ?zz153xkK ?zz153xk6 ?zz153xk7 ?zz153xk8 ?zz153xk9 ?zz153xkB ?_ ?zz153xc2 ?zz153xc3 ?zz153xc4 ?zz153xc5; (case zz153xkA => exact rfl); (case zz153xkF => exact rfl); (case zz153xkK => first | exact rfl | assumption); (case zz153xk1 => k_asm); (case zz153xk2 => k_asm); (case zz153xk3 => k_asm); (case zz153xk4 => k_asm); (case zz153xk5 => k_asm); (case zz153xk6 => k_is); (case zz153xk7 => k_is); (case zz153xk8 => ktr_room); (case zz153xk9 => first | exact BindsTo.of_eq (binds := []) rfl | exact BindsTo.of_eq (binds := [(_, _)]) rfl | exact BindsTo.of_eq (binds := [(_, _), (_, _)]) rfl | exact BindsTo.of_eq (binds := [(_, _), (_, _), (_, _)]) rfl | exact BindsTo.of_eq (binds := [(_, _), (_, _), (_, _), (_, _)]) rfl | exact BindsTo.of_eq (binds := [(_, _), (_, _), (_, _), (_, _), (_, _)]) rfl | exact BindsTo.of_eq (binds := [(_, _), (_, _), (_, _), (_, _), (_, _), (_, _)]) rfl | exact BindsTo.of_eq (binds := [(_, _), (_, _), (_, _), (_, _), (_, _), (_, _), (_, _)]) rfl | exact BindsTo.of_eq (binds := [(_, _), (_, _), (_, _), (_, _), (_, _), (_, _), (_, _), (_, _)]) rfl | exact BindsTo.of_eq (binds := [(_, _), (_, _), (_, _), (_, _), (_, _), (_, _), (_, _), (_, _), (_, _)]) rfl | exact BindsTo.of_eq (binds := [(_, _), (_, _), (_, _), (_, _), (_, _), (_, _), (_, _), (_, _), (_, _), (_, _)]) rfl | exact binds_K (by k_in) rfl (by k_is) rfl rfl rfl); (case zz153xc5 => decide); (case zz153xkB => exact locs rfl); (case zz153xc2 => exact rfl); (case zz153xc3 => exact rfl); (case zz153xc4 => exact rfl); k_whole; intro g' L' h' FG' F' N' B' X' T'; (try dsimp only); (try k_fold)) | (refine' code_defC ?zz153xk1 ?zz153xk2 ?zz153xk3 ?zz153xk4 ?zz153xk5 ?zz153xkA ?zz153xkF ?zz153xkK ?zz153xk6 ?zz153xk7 ?zz153xk8 ?zz153xk9 ?zz153xkB ?zz153xkD ?_ ?zz153xc2 ?zz153xc3 ?zz153xc4; (case zz153xkA => exact rfl); (case zz153xkF => exact rfl); (case zz153xkK => first | exact rfl | assumption); (case zz153xk1 => k_asm); (case zz153xk2 => k_asm); (case zz153xk3 => k_asm); (case zz153xk4 => k_asm); (case zz153xk5 => k_asm); (case zz153xk6 => k_is); (case zz153xk7 => k_is); (case zz153xk8 => ktr_room); (case zz153xk9 => first | exact BindsTo.of_eq (binds := []) rfl | exact BindsTo.of_eq (binds := [(_, _)]) rfl | exact BindsTo.of_eq (binds := [(_, _), (_, _)]) rfl | exact BindsTo.of_eq (binds := [(_, _), (_, _), (_, _)]) rfl | exact BindsTo.of_eq (binds := [(_, _), (_, _), (_, _), (_, _)]) rfl | exact BindsTo.of_eq (binds := [(_, _), (_, _), (_, _), (_, _), (_, _)]) rfl | exact BindsTo.of_eq (binds := [(_, _), (_, _), (_, _), (_, _), (_, _), (_, _)]) rfl | exact BindsTo.of_eq (binds := [(_, _), (_, _), (_, _), (_, _), (_, _), (_, _), (_, _)]) rfl | exact BindsTo.of_eq (binds := [(_, _), (_, _), (_, _), (_, _), (_, _), (_, _), (_, _), (_, _)]) rfl | exact BindsTo.of_eq (binds := [(_, _), (_, _), (_, _), (_, _), (_, _), (_, _), (_, _), (_, _), (_, _)]) rfl | exact BindsTo.of_eq (binds := [(_, _), (_, _), (_, _), (_, _), (_, _), (_, _), (_, _), (_, _), (_, _), (_, _)]) rfl | exact binds_K (by k_in) rfl (by k_is) rfl rfl rfl); (case zz153xkB => exact rfl); (case zz153xkD => decide +kernel); (case zz153xc2 => exact rfl); (case zz153xc3 => exact rfl); (case zz153xc4 => exact rfl); k_whole; intro g' L' h' tk' cells' FG' F' N' Y' B' X' T' l1; k_cells Y'; (try simp only [List.cons_append, List.nil_append] at N'); (try dsimp only); (try k_fold)))
  k_with "call ref" => (k_here; k_dflt (refine' mk_inst ?zz133xk1 ?zz133xk2 ?zz133xk3 ?zz133xk4 ?zz133xk5 ?zz133xk6 ?_; (case zz133xk1 => k_asm); (case zz133xk2 => k_asm); (case zz133xk3 => k_asm); (case zz133xk4 => k_is); (case zz133xk5 => k_is); (case zz133xk6 => k_is); k_whole; intro x' d' o' h' F' N' a' l1 l2; (have nd' := nd_cons2 l1 l2 (by assumption)); (try k_sweep); (k_extra "ENTER")))
  k_with "setAttr ref" => (k_here; k_dflt (refine' at_set ?zz134xk1 ?zz134xk2 ?zz134xk3 ?zz134xk4 ?zz134xk5 ?zz134xk6 ?zz134xk7 ?zz134xk8 ?zz134xk9 ?zz134xk10 ?zz134xk11 ?_; (case zz134xk1 => k_asm); (case zz134xk2 => k_asm); (case zz134xk3 => k_asm); (case zz134xk4 => k_mem); (case zz134xk5 => k_updF); (case zz134xk6 => assumption); (case zz134xk7 => k_is); (case zz134xk8 => k_is); (case zz134xk9 => k_is); (case zz134xk10 => k_is); (case zz134xk11 => exact Nat.le_of_ble_eq_true rfl); k_whole; intro h' o' F' N' a'; (try dsimp only at N' a' F'); (try k_sweep)))
  k_with "setAttr ref" => (k_here; k_dflt (refine' at_again ?zz135xk1 ?zz135xk2 ?zz135xk3 ?zz135xk4 ?zz135xk5 ?zz135xk6 ?zz135xk0 ?zz135xk7 ?zz135xk8 ?zz135xk9 ?zz135xk10 ?zz135xk11 ?_; (case zz135xk1 => k_asm); (case zz135xk2 => k_asm); (case zz135xk3 => k_asm); (case zz135xk4 => k_mem); (case zz135xk5 => k_updF); (case zz135xk6 => assumption); (case zz135xk0 => first | exact rfl | assumption); (case zz135xk7 => k_is); (case zz135xk8 => k_is); (case zz135xk9 => k_is); (case zz135xk10 => k_is); (case zz135xk11 => exact Nat.le_of_ble_eq_true rfl); k_whole; intro h' o' F' N' a'; (try dsimp only at N' a' F'); (try k_sweep)))
  k_with "getAttr ref" => (k_here; k_dflt (refine' at_get ?zz136xk1 ?zz136xk2 ?zz136xk3 ?zz136xk4 ?zz136xk5 ?zz136xk6 ?zz136xk7 ?zz136xk8 ?zz136xk9 ?zz136xk10 ?zz136xk11 ?zz136xk12 ?_; (case zz136xk1 => k_asm); (case zz136xk2 => k_asm); (case zz136xk3 => k_asm); (case zz136xk4 => k_mem); (case zz136xk5 => k_mem); (case zz136xk6 => assumption); (case zz136xk7 => first | exact rfl | assumption); (case zz136xk8 => k_is); (case zz136xk9 => k_is); (case zz136xk10 => k_is); (case zz136xk11 => k_is); (case zz136xk12 => k_handed); k_whole))
  k_with "call type:list" => (k_here; (with_reducible show wpAny _ _ (call (Value.type _) [Value.ref _]) _ _ _); (with_unfolding_all refine' list_copyK ?zz137xk1 ?zz137xk2 ?zz137xk3 ?_ ?zz137xz; (case zz137xk1 => k_asm); (case zz137xk2 => k_asm); (case zz137xk3 => exact News.isList (d := none) (sl := #[]) (by k_asm) (by k_mem)); (case zz137xz => size_fits); k_whole); intro D' c' h' F' N' l1; (have nd' := nd_cons l1 (by assumption)); (try k_sweep))
  k_with "compareOp Eq ref ref" => (k_here; (with_reducible show wpAny _ _ (compareOp CmpOp.Eq (Value.ref _) (Value.ref _)) _ _ _); k_dflt (refine' ke_eq_ints (xs := []) (ys := []) ?zz138xa ?zz138xb .nil .nil ?zz138xu ?_; (case zz138xa => exact News.isList (d := none) (sl := #[]) (items := #[]) (by k_asm) (by k_mem)); (case zz138xb => exact News.isList (d := none) (sl := #[]) (items := #[]) (by k_asm) (by k_mem)); (case zz138xu => ktr_units); k_whole))
  k_with "getMethod ref" => (k_here; k_dflt (first | ((with_reducible show wpAny _ _ (getMethod (Value.ref _) (Str.ofString "get") _) _ _ _); refine' dic_method (knd := PySem.strKind _ _) PySem.F.slot_dict_get PySem.F.type_dict_get ?zz139xa ?zz139xb ?zz139xc ?_; (case zz139xa => k_asm); (case zz139xb => k_mem); (case zz139xc => assumption); k_whole) | ((with_reducible show wpAny _ _ (getMethod (Value.ref _) (Str.ofString "get") _) _ _ _); refine' dic_method (knd := PySem.intKind _ _) PySem.F.slot_dict_get PySem.F.type_dict_get ?zz139xa ?zz139xb ?zz139xc ?_; (case zz139xa => k_asm); (case zz139xb => k_mem); (case zz139xc => assumption); k_whole) | ((with_reducible show wpAny _ _ (getMethod (Value.ref _) (Str.ofString "setdefault") _) _ _ _); refine' dic_method (knd := PySem.strKind _ _) PySem.F.slot_dict_setdefault PySem.F.type_dict_setdefault ?zz139xa ?zz139xb ?zz139xc ?_; (case zz139xa => k_asm); (case zz139xb => k_mem); (case zz139xc => assumption); k_whole) | ((with_reducible show wpAny _ _ (getMethod (Value.ref _) (Str.ofString "setdefault") _) _ _ _); refine' dic_method (knd := PySem.intKind _ _) PySem.F.slot_dict_setdefault PySem.F.type_dict_setdefault ?zz139xa ?zz139xb ?zz139xc ?_; (case zz139xa => k_asm); (case zz139xb => k_mem); (case zz139xc => assumption); k_whole)))
  k_with "call builtin:dict.get" => (k_here; k_dflt (first
  | (refine' dic_get2 (knd := PySem.strKind _ _) ?zz140xa ?zz140xb ?zz140xc ?zz140xd (strKind_is _ _ _ _) ?_; (case zz140xa => k_asm); (case zz140xb => k_mem); (case zz140xc => assumption); (case zz140xd => assumption); k_whole)
  | (refine' dic_get1 (knd := PySem.intKind _ _) ?zz140xa ?zz140xb ?zz140xc ?zz140xd (intKind_is _ _ _ _) ?_; (case zz140xa => k_asm); (case zz140xb => k_mem); (case zz140xc => assumption); (case zz140xd => assumption); k_whole)); (try simp only [Option.getD_none, Option.getD_some, *]))
  k_with "call builtin:dict.setdefault" => (k_here; k_dflt (first
  | (refine' dic_default (knd := PySem.strKind _ _) ?zz141xa ?zz141xb ?zz141xc ?zz141xd ?zz141xe (strKind_is _ _ _ _) ?zz141xf ?zz141xg ?_; (case zz141xa => k_asm); (case zz141xb => k_asm); (case zz141xc => k_updF); (case zz141xd => assumption); (case zz141xe => assumption); (case zz141xf => omega); (case zz141xg => assumption); k_whole)
  | (refine' dic_default (knd := PySem.intKind _ _) ?zz141xa ?zz141xb ?zz141xc ?zz141xd ?zz141xe (intKind_is _ _ _ _) ?zz141xf ?zz141xg ?_; (case zz141xa => k_asm); (case zz141xb => k_asm); (case zz141xc => k_updF); (case zz141xd => assumption); (case zz141xe => assumption); (case zz141xf => omega); (case zz141xg => assumption); k_whole)); intro h' o' F' N' dc'; (try dsimp only at N' dc' F'); (try k_sweep))
  k_with "setItem ref str" => (k_here; k_dflt (refine' dic_set (knd := PySem.strKind _ _) ?zz142xa ?zz142xb ?zz142xc ?zz142xd (strKind_is _ _ _ _) ?zz142xf ?_; (case zz142xa => k_asm); (case zz142xb => k_asm); (case zz142xc => k_updF); (case zz142xd => assumption); (case zz142xf => omega); k_whole); intro h' o' F' N' dc'; (try dsimp only at N' dc' F'); (try k_sweep))
  k_with "eval ListComp" => (k_here; k_dflt (refine' comp0 ?zz143xF0 ?zz143xhh ?zz143xa ?zz143xb ?zz143xc ?zz143xd ?zz143xe ?_ ?zz143xf; (case zz143xF0 => k_asm); (case zz143xhh => exact rfl); (case zz143xa => exact rfl); (case zz143xb => decide); (case zz143xc => exact rfl); (case zz143xd => decide); (case zz143xe => exact rfl); (case zz143xf => intro _; exact rfl); k_whole))
  k_with "Comp0" => (k_dflt (refine' Comp0.intro ?zz144xa ?zz144xb ?zz144xc ?_; (case zz144xa => k_asm); (case zz144xb => k_asm); (case zz144xc => k_mem)); intro D' c' h' tk' F' N' l1; (try (have nd' := nd_consN l1 (by assumption))); (try k_sweep))
  k_with "exec Assign cons ListComp" => (k_here; k_dflt (refine' comp0A ?zz145xF0 ?zz145xhh ?zz145xsw ?zz145xa ?zz145xb ?zz145xc ?zz145xd ?zz145xe ?zz145xy ?zz145xp ?zz145xL ?_ ?zz145xf; (case zz145xF0 => k_asm); (case zz145xhh => exact rfl); (case zz145xsw => exact rfl); (case zz145xa => exact rfl); (case zz145xb => decide); (case zz145xc => exact rfl); (case zz145xd => decide); (case zz145xe => exact rfl); (case zz145xy => exact rfl); (case zz145xp => exact rfl); (case zz145xL => exact rfl); (case zz145xf => intro _; exact rfl); k_whole))
  k_with "Comp0A" => (k_dflt (refine' Comp0A.intro ?zz146xa ?zz146xb ?zz146xc ?_; (case zz146xa => k_asm); (case zz146xb => k_asm); (case zz146xc => k_mem)); intro D' c' h' tk' F' N' l1; (try (have nd' := nd_consN l1 (by assumption))); (try k_sweep))
  k_with "exec For" => (k_here; k_dflt (refine' For_own ?zz147xF ?zz147xhx ?zz147xhp ?_ ?zz147xhs ?zz147xhE; (case zz147xF => k_asm); (case zz147xhx => exact rfl); (case zz147xhp => exact rfl); (case zz147xhs => intro _; exact rfl); (case zz147xhE => first | passes_own | (subst ek; passes_own) | (unfold ek; passes_own)); k_whole))
  k_with "pyIter ref" => (k_here; k_dflt (refine' iter_none ?zz148xhh ?zz148xF ?zz148xN ?zz148xhl ?_; (case zz148xhh => exact rfl); (case zz148xF => k_asm); (case zz148xN => k_asm); (case zz148xhl => k_mem)); intro u h' tk' F' N'; (try k_sweep))
  k_with "compareOp In str str" => (k_here; k_dflt (refine' dot_in ?zz149xq ?_; (case zz149xq => exact Nice.dot (by assumption)); k_whole))
  k_with "call builtin:list.append" => (k_here; (with_reducible show wpAny _ _ (call (Value.builtin _) [Value.ref _, _]) _ _ _); k_dflt (refine' append_K ?zz150xk1 ?zz150xk2 ?zz150xk3 ?_ ?zz150xz; (case zz150xk1 => k_asm); (case zz150xk2 => k_asm); (case zz150xk3 => k_upd); (case zz150xz => first | size_fits | (rw [sizeLine_eq]; omega)); k_whole); intro h' F' N'; (try k_sweep))
  k_with "call ref" => (k_here; (with_reducible show wpAny _ _ (call (Value.ref 143) _ _) _ _ _); k_dflt (refine' settle_c ?zz151xB ?zz151xF ?zz151xKX ?zz151xT ?zz151xhk ?zz151xN ?zz151xnd ?zz151xhd ?zz151xhu ?zz151xq1 ?zz151xq2 ?zz151xq3 ?zz151xq4 ?zz151xq5 ?zz151xq6 ?zz151xq7 ?zz151xq8 ?zz151xq9 ?zz151xq10 ?_; (case zz151xB => k_asm); (case zz151xF => k_asm); (case zz151xKX => k_asm); (case zz151xT => k_asm); (case zz151xhk => first | exact rfl | assumption); (case zz151xN => k_asm); (case zz151xhd => ktr_room); (case zz151xhu => ktr_units); (case zz151xq1 => k_mem); (case zz151xq2 => k_mem); (case zz151xq4 => k_mem); (case zz151xq5 => k_mem); (case zz151xq3 => first | assumption | (refine Attrs.pick (by assumption) ?_; repeat' (first | exact List.forall_mem_nil _ | refine List.forall_mem_cons.mpr ⟨rfl, ?_⟩))); (case zz151xq6 => first | assumption | (refine Attrs.pick (by assumption) ?_; repeat' (first | exact List.forall_mem_nil _ | refine List.forall_mem_cons.mpr ⟨rfl, ?_⟩))); (case zz151xq7 => k_mem); (case zz151xq8 => assumption); (case zz151xnd => assumption); (case zz151xq9 => assumption); (case zz151xq10 => assumption); k_whole; intro h' tk' F' N'; (try dsimp only at *); (try k_sweep)))
  k_with "call ref" => (k_here; (with_reducible show wpAny _ _ (call (Value.ref 138) _ _) _ _ _); k_dflt (refine' give_c ?zz152xq1 ?zz152xq3 ?zz152xq4 ?zz152xq5 ?zz152xq6 ?zz152xq7 ?zz152xq8 ?zz152xq9 ?zz152xq10 ?zz152xq11 ?zz152xq12 ?zz152xq13 ?zz152xB ?zz152xF ?zz152xKX ?zz152xT ?zz152xhk ?zz152xN ?zz152xnd ?zz152xhd ?zz152xhu ?_; (case zz152xB => k_asm); (case zz152xF => k_asm); (case zz152xKX => k_asm); (case zz152xT => k_asm); (case zz152xhk => first | exact rfl | assumption); (case zz152xN => k_asm); (case zz152xhd => ktr_room); (case zz152xhu => ktr_units); (case zz152xq6 => refine Chain.sub ?_ (by assumption); (intro p hp; repeat (first | exact hp | apply List.Mem.tail))); (case zz152xq1 => k_mem); (case zz152xq4 => k_mem); (case zz152xq3 => first | assumption | (refine Attrs.pick (by assumption) ?_; repeat' (first | exact List.forall_mem_nil _ | refine List.forall_mem_cons.mpr ⟨rfl, ?_⟩))); (case zz152xq5 => first | assumption | (refine Attrs.pick (by assumption) ?_; repeat' (first | exact List.forall_mem_nil _ | refine List.forall_mem_cons.mpr ⟨rfl, ?_⟩))); (case zz152xq7 => assumption); (case zz152xq8 => assumption); (case zz152xq9 => assumption); (case zz152xq10 => omega); (case zz152xq11 => omega); (case zz152xq12 => assumption); (case zz152xq13 => exact Nice.len (by assumption)); (case zz152xnd => assumption); k_whole; intro oe' oc' fc' uq' h' tk' F' N' ae' dc' hcn'; (try dsimp only at *); (try k_sweep)))
  trivial



theorem decl_root {w : World} {mean : ExcName → Option Value} {mg mb : Str → Option Value}
    {dp un : Nat} {gd : Option (List Code)} {cn : Str} {cs : Scope} {a : Addr} {ccd : Value} {cl : List (Str × Addr)} {outer : List Env} {A₀ : Around} {base h₀ : Heap} {L : Addr} {m : Str → Option Value} {news : List (Addr × Obj)} {s : Shared}
    {Q E : Value → Shared → Prop} {rr drr : Addr} {odrr : Obj} {tkrr tMr tnurr tlvrr tptrr : Tok} {parr : Value} {ptrr : Str} {Mr nurr lvrr : Int} {ca ta : Addr} {e de : Addr} {oe : Obj} {kd nm : Str} {tk tn : Tok} {sv : Value} {ln : Int} {tl : Tok} {reg full : Value} {compl impl : Bool} {home uq nb pa : Value}  {na oa : Addr} {oc on : Obj} {b nc nn co : Nat} {items : Array Value} {fc fn : Str → Option Value}
    (hrr : (rr, instObj 113 drr) ∈ news) (arr : Attrs 16 odrr (at_ (regL "root" tkrr parr rr Mr tMr nurr tnurr lvrr tlvrr ptrr tptrr na oa ca ta))) (he : (e, instObj 77 de) ∈ news) (ae : Attrs 17 oe (at_ (entL kd tk nm tn sv ln tl reg full compl impl home uq nb pa)))
    
    (dc : Dic (strKind PySem.Challenge.rw_rg0009_01.row.prog w) oc nc fc) (hcn : ∀ x v, fc x = some v → ∃ c t, v = Value.int c t ∧ 0 ≤ c ∧ c ≤ b) (lo : (ca == sysModules) = false) (hb : b ≤ 1000) (hnc : nc ≤ 1000)
    (dn : Dic (strKind PySem.Challenge.rw_rg0009_01.row.prog w) on nn fn) (hf : fn nm = none) (lon : (na == sysModules) = false) (hnn : nn ≤ 1000) (hit : items.size ≤ 1000)
    (hkd : (kd == Str.ofString "exception") = false) (hnm : Nice nm) (hM0 : 0 ≤ Mr) (hM1 : Mr ≤ 10000)
    (B : Below A₀ base outer h₀) (F : Fr h₀ L s.heap m) (KX : (Mine.K w.params).In h₀) (T : Top Mine.q0 (looseW Mine.q0 [Str.ofString "Limits"]) mean mg mb h₀) (hk : cs.kind = .function) (N : News h₀ L s.heap ((de, oe) :: (drr, odrr) :: (ca, oc) :: (na, on) :: (oa, PySem.W.listOf items co) :: news)) (nd : (((de, oe) :: (drr, odrr) :: (ca, oc) :: (na, on) :: (oa, PySem.W.listOf items co) :: news).map Prod.fst).Nodup) (hd : dp + 30 < recursionLimit) (hu : un + 700 < cLine)
    (hret : ∀ oe' odrr' oc' on' fc' fn' uq' nb' pa' tM' l c' h' tks, Fr h₀ L h' m → News h₀ L h' ((de, oe') :: (drr, odrr') :: (ca, oc') :: (na, on') :: (oa, PySem.W.listOf (items.push (.ref e)) c') :: news) → Attrs 17 oe' (at_ (entL kd tk nm tn sv ln tl reg full compl impl (.ref rr) uq' nb' pa')) → Attrs 16 odrr' (at_ (regL "root" tkrr parr rr (Mr + 1) tM' nurr tnurr lvrr tlvrr ptrr tptrr na oa ca ta)) →
      Dic (strKind PySem.Challenge.rw_rg0009_01.row.prog w) oc' (nc + 1) fc' → (∀ x v, fc' x = some v → ∃ c t, v = Value.int c t ∧ 0 ≤ c ∧ c ≤ ((b + 1 : Nat) : Int)) →
      Dic (strKind PySem.Challenge.rw_rg0009_01.row.prog w) on' (nn + 1) fn' → fn' = (fun x => if x = nm then some l else fn x) → Q .none { s with heap := h', toks := tks }) :
    wpAny (model PySem.Challenge.rw_rg0009_01.row.prog w) (ktrTop dp un gd cn cs L a ccd cl outer) (call (.ref 150) [.ref rr, .ref e]) Q E s := by
  have hc : Chain news rr 0 rr := rfl
  (try w_top off); revert KX; k_fill; intro KX
  refine wpAny_call ?_
  (k_extra "ENTER")
  k_steps
  all_goals exact hret _ _ _ _ _ _ _ _ _ _ _ _ _ _ (by k_asm) (by ktr_rel) (by refine Attrs.pick (by assumption) ?_; repeat' (first | exact List.forall_mem_nil _ | refine List.forall_mem_cons.mpr ⟨rfl, ?_⟩)) (by refine Attrs.pick (by assumption) ?_; repeat' (first | exact List.forall_mem_nil _ | refine List.forall_mem_cons.mpr ⟨rfl, ?_⟩)) (by assumption) (by assumption) (by assumption) rfl

end Mine
end
section
open PySem PySem.W PyProof.Rows
namespace Mine
theorem ln12 : True := by
  k_with_none
  k_with "ENTER" => (first | (refine' code_def ?zz160xk1 ?zz160xk2 ?zz160xk3 ?zz160xk4 ?zz160xk5 ?zz160xkA ?zz160xkF ?zz160xkK ?zz160xk6 ?zz160xk7 ?zz160xk8 ?zz160xk9 ?zz160xkB ?_ ?zz160xc2 ?zz160xc3 ?zz160xc4 ?zz160xc5; (case zz160xkA => exact rfl); (case zz160xkF => exact rfl); (case zz160xkK => first | exact rfl | assumption); (case zz160xk1 => k_asm); (case zz160xk2 => k_asm); (case zz160xk3 => k_asm); (case zz160xk4 => k_asm); (case zz160xk5 => k_asm); (case zz160xk6 => k_is); (case zz160xk7 => k_is); (case zz160xk8 => ktr_room); (case zz160xk9 => first | exact BindsTo.of_eq (binds := []) rfl | exact BindsTo.of_eq (binds := [(_, _)]) rfl | exact BindsTo.of_eq (binds := [(_, _), (_, _)]) rfl | exact BindsTo.of_eq (binds := [(_, _), (_, _), (_, _)]) rfl | exact BindsTo.of_eq (binds := [(_, _), (_, _), (_, _), (_, _)]) rfl | exact BindsTo.of_eq (binds := [(_, _), (_, _), (_, _), (_, _), (_, _)]) rfl | exact BindsTo.of_eq (binds := [(_, _), (_, _), (_, _), (_, _), (_, _), (_, _)]) rfl | exact BindsTo.of_eq (binds := [(_, _), (_, _), (_, _), (_, _), (_, _), (_, _), (_, _)]) rfl | exact BindsTo.of_eq (binds := [(_, _), (_, _), (_, _), (_, _), (_, _), (_, _), (_, _), (_, _)]) rfl | exact BindsTo.of_eq (binds := [(_, _), (_, _), (_, _), (_, _), (_, _), (_, _), (_, _), (_, _), (_, _)]) rfl | exact BindsTo.of_eq (binds := [(_, _), (_, _), (_, _), (_, _), (_, _), (_, _), (_, _), (_, _), (_, _), (_, _)]) rfl | exact binds_K (by k_in) rfl (by k_is) rfl rfl rfl); (case zz160xc5 => decide); (case zz160xkB => exact locs rfl); (case zz160xc2 => exact rfl); (case zz160xc3 => exact rfl); (case zz160xc4 => exact rfl); k_whole; intro g' L' h' FG' F' N' B' X' T'; (try dsimp only); (try k_fold)) | (refine' code_defC ?zz160xk1 ?zz160xk2 ?zz160xk3 ?zz160xk4 ?zz160xk5 ?zz160xkA ?zz160xkF ?zz160xkK ?zz160xk6 ?zz160xk7 ?zz160xk8 ?zz160xk9 ?zz160xkB ?zz160xkD ?_ ?zz160xc2 ?zz160xc3 ?zz160xc4; (case zz160xkA => exact rfl); (case zz160xkF => exact rfl); (case zz160xkK => first | exact rfl | assumption); (case zz160xk1 => k_asm); (case zz160xk2 => k_asm); (case zz160xk3 => k_asm); (case zz160xk4 => k_asm); (case zz160xk5 => k_asm); (case zz160xk6 => k_is); (case zz160xk7 => k_is); (case zz160xk8 => ktr_room); (case zz160xk9 => first | exact BindsTo.of_eq (binds := []) rfl | exact BindsTo.of_eq (binds := [(_, _)]) rfl | exact BindsTo.of_eq (binds := [(_, _), (_, _)]) rfl | exact BindsTo.of_eq (binds := [(_, _), (_, _), (_, _)]) rfl | exact BindsTo.of_eq (binds := [(_, _), (_, _), (_, _), (_, _)]) rfl | exact BindsTo.of_eq (binds := [(_, _), (_, _), (_, _), (_, _), (_, _)]) rfl | exact BindsTo.of_eq (binds := [(_, _), (_, _), (_, _), (_, _), (_, _), (_, _)]) rfl | exact BindsTo.of_eq (binds := [(_, _), (_, _), (_, _), (_, _), (_, _), (_, _), (_, _)]) rfl | exact BindsTo.of_eq (binds := [(_, _), (_, _), (_, _), (_, _), (_, _), (_, _), (_, _), (_, _)]) rfl | exact BindsTo.of_eq (binds := [(_, _), (_, _), (_, _), (_, _), (_, _), (_, _), (_, _), (_, _), (_, _)]) rfl | exact BindsTo.of_eq (binds := [(_, _), (_, _), (_, _), (_, _), (_, _), (_, _), (_, _), (_, _), (_, _), (_, _)]) rfl | exact binds_K (by k_in) rfl (by k_is) rfl rfl rfl); (case zz160xkB => exact rfl); (case zz160xkD => decide +kernel); (case zz160xc2 => exact rfl); (case zz160xc3 => exact rfl); (case zz160xc4 => exact rfl); k_whole; intro g' L' h' tk' cells' FG' F' N' Y' B' X' T' l1; k_cells Y'; (try simp only [List.cons_append, List.nil_append] at N'); (try dsimp only); (try k_fold)))
  k_with "call ref" => (k_here; k_dflt (refine' mk_inst ?zz154xk1 ?zz154xk2 ?zz154xk3 ?zz154xk4 ?zz154xk5 ?zz154xk6 ?_; (case zz154xk1 => k_asm); (case zz154xk2 => k_asm); (case zz154xk3 => k_asm); (case zz154xk4 => k_is); (case zz154xk5 => k_is); (case zz154xk6 => k_is); k_whole; intro x' d' o' h' F' N' a' l1 l2; (have nd' := nd_cons2 l1 l2 (by assumption)); (try k_sweep); (k_extra "ENTER")))
  k_with "setAttr ref" => (k_here; k_dflt (refine' at_set ?zz155xk1 ?zz155xk2 ?zz155xk3 ?zz155xk4 ?zz155xk5 ?zz155xk6 ?zz155xk7 ?zz155xk8 ?zz155xk9 ?zz155xk10 ?zz155xk11 ?_; (case zz155xk1 => k_asm); (case zz155xk2 => k_asm); (case zz155xk3 => k_asm); (case zz155xk4 => k_mem); (case zz155xk5 => k_updF); (case zz155xk6 => assumption); (case zz155xk7 => k_is); (case zz155xk8 => k_is); (case zz155xk9 => k_is); (case zz155xk10 => k_is); (case zz155xk11 => exact Nat.le_of_ble_eq_true rfl); k_whole; intro h' o' F' N' a'; (try dsimp only at N' a' F'); (try k_sweep)))
  k_with "setAttr ref" => (k_here; k_dflt (refine' at_again ?zz156xk1 ?zz156xk2 ?zz156xk3 ?zz156xk4 ?zz156xk5 ?zz156xk6 ?zz156xk0 ?zz156xk7 ?zz156xk8 ?zz156xk9 ?zz156xk10 ?zz156xk11 ?_; (case zz156xk1 => k_asm); (case zz156xk2 => k_asm); (case zz156xk3 => k_asm); (case zz156xk4 => k_mem); (case zz156xk5 => k_updF); (case zz156xk6 => assumption); (case zz156xk0 => first | exact rfl | assumption); (case zz156xk7 => k_is); (case zz156xk8 => k_is); (case zz156xk9 => k_is); (case zz156xk10 => k_is); (case zz156xk11 => exact Nat.le_of_ble_eq_true rfl); k_whole; intro h' o' F' N' a'; (try dsimp only at N' a' F'); (try k_sweep)))
  k_with "getAttr ref" => (k_here; k_dflt (refine' at_get ?zz157xk1 ?zz157xk2 ?zz157xk3 ?zz157xk4 ?zz157xk5 ?zz157xk6 ?zz157xk7 ?zz157xk8 ?zz157xk9 ?zz157xk10 ?zz157xk11 ?zz157xk12 ?_; (case zz157xk1 => k_asm); (case zz157xk2 => k_asm); (case zz157xk3 => k_asm); (case zz157xk4 => k_mem); (case zz157xk5 => k_mem); (case zz157xk6 => assumption); (case zz157xk7 => first | exact rfl | assumption); (case zz157xk8 => k_is); (case zz157xk9 => k_is); (case zz157xk10 => k_is); (case zz157xk11 => k_is); (case zz157xk12 => k_handed); k_whole))
  k_with "call type:list" => (k_here; (with_reducible show wpAny _ _ (call (Value.type _) [Value.ref _]) _ _ _); (with_unfolding_all refine' list_copyK ?zz158xk1 ?zz158xk2 ?zz158xk3 ?_ ?zz158xz; (case zz158xk1 => k_asm); (case zz158xk2 => k_asm); (case zz158xk3 => exact News.isList (d := none) (sl := #[]) (by k_asm) (by k_mem)); (case zz158xz => size_fits); k_whole); intro D' c' h' F' N' l1; (have nd' := nd_cons l1 (by assumption)); (try k_sweep))
  k_with "compareOp Eq ref ref" => (k_here; (with_reducible show wpAny _ _ (compareOp CmpOp.Eq (Value.ref _) (Value.ref _)) _ _ _); k_dflt (refine' ke_eq_ints (xs := []) (ys := []) ?zz159xa ?zz159xb .nil .nil ?zz159xu ?_; (case zz159xa => exact News.isList (d := none) (sl := #[]) (items := #[]) (by k_asm) (by k_mem)); (case zz159xb => exact News.isList (d := none) (sl := #[]) (items := #[]) (by k_asm) (by k_mem)); (case zz159xu => ktr_units); k_whole))
  trivial



theorem ready_c {w : World} {mean : ExcName → Option Value} {mg mb : Str → Option Value}
    {dp un : Nat} {gd : Option (List Code)} {cn : Str} {cs : Scope} {a : Addr} {ccd : Value} {cl : List (Str × Addr)} {outer : List Env} {A₀ : Around} {base h₀ : Heap} {L : Addr} {m : Str → Option Value} {news : List (Addr × Obj)} {s : Shared}
    {Q E : Value → Shared → Prop} {e de : Addr} {oe : Obj} {kd nm : Str} {tk tn : Tok} {sv : Value} {ln : Int} {tl : Tok} {reg full : Value} {compl impl : Bool} {home uq nb pa : Value}
    (he : (e, instObj 77 de) ∈ news) (ae : Attrs 17 oe (at_ (entL kd tk nm tn sv ln tl reg full compl impl home uq nb pa)))
    (B : Below A₀ base outer h₀) (F : Fr h₀ L s.heap m) (KX : (Mine.K w.params).In h₀) (T : Top Mine.q0 (looseW Mine.q0 [Str.ofString "Limits"]) mean mg mb h₀) (hk : cs.kind = .function) (N : News h₀ L s.heap ((de, oe) :: news)) (nd : (((de, oe) :: news).map Prod.fst).Nodup) (hd : dp + 10 < recursionLimit) (hu : un + 500 < cLine)
    (hret : ∀ oe' h' tks, Fr h₀ L h' m → News h₀ L h' ((de, oe') :: news) → Attrs 18 oe' (at_ (entL kd tk nm tn sv ln tl reg full compl impl home uq nb pa)) → Q .none { s with heap := h', toks := tks }) :
    wpAny (model PySem.Challenge.rw_rg0009_01.row.prog w) (ktrTop dp un gd cn cs L a ccd cl outer) (call (.ref 157) [.ref e]) Q E s := by
  (try w_top off); revert KX; k_fill; intro KX
  refine wpAny_call ?_
  (k_extra "ENTER")
  k_steps
  all_goals exact hret _ _ _ (by k_asm) (by ktr_rel) (by refine Attrs.pick (by assumption) ?_; repeat' (first | exact List.forall_mem_nil _ | refine List.forall_mem_cons.mpr ⟨rfl, ?_⟩))

end Mine
end
section
open PySem PySem.W PyProof.Rows
namespace Mine
theorem ln13 : True := by
  k_with_none
  k_with "ENTER" => (first | (refine' code_def ?zz175xk1 ?zz175xk2 ?zz175xk3 ?zz175xk4 ?zz175xk5 ?zz175xkA ?zz175xkF ?zz175xkK ?zz175xk6 ?zz175xk7 ?zz175xk8 ?zz175xk9 ?zz175xkB ?_ ?zz175xc2 ?zz175xc3 ?zz175xc4 ?zz175xc5; (case zz175xkA => exact rfl); (case zz175xkF => exact rfl); (case zz175xkK => first | exact rfl | assumption); (case zz175xk1 => k_asm); (case zz175xk2 => k_asm); (case zz175xk3 => k_asm); (case zz175xk4 => k_asm); (case zz175xk5 => k_asm); (case zz175xk6 => k_is); (case zz175xk7 => k_is); (case zz175xk8 => ktr_room); (case zz175xk9 => first | exact BindsTo.of_eq (binds := []) rfl | exact BindsTo.of_eq (binds := [(_, _)]) rfl | exact BindsTo.of_eq (binds := [(_, _), (_, _)]) rfl | exact BindsTo.of_eq (binds := [(_, _), (_, _), (_, _)]) rfl | exact BindsTo.of_eq (binds := [(_, _), (_, _), (_, _), (_, _)]) rfl | exact BindsTo.of_eq (binds := [(_, _), (_, _), (_, _), (_, _), (_, _)]) rfl | exact BindsTo.of_eq (binds := [(_, _), (_, _), (_, _), (_, _), (_, _), (_, _)]) rfl | exact BindsTo.of_eq (binds := [(_, _), (_, _), (_, _), (_, _), (_, _), (_, _), (_, _)]) rfl | exact BindsTo.of_eq (binds := [(_, _), (_, _), (_, _), (_, _), (_, _), (_, _), (_, _), (_, _)]) rfl | exact BindsTo.of_eq (binds := [(_, _), (_, _), (_, _), (_, _), (_, _), (_, _), (_, _), (_, _), (_, _)]) rfl | exact BindsTo.of_eq (binds := [(_, _), (_, _), (_, _), (_, _), (_, _), (_, _), (_, _), (_, _), (_, _), (_, _)]) rfl | exact binds_K (by k_in) rfl (by k_is) rfl rfl rfl); (case zz175xc5 => decide); (case zz175xkB => exact locs rfl); (case zz175xc2 => exact rfl); (case zz175xc3 => exact rfl); (case zz175xc4 => exact rfl); k_whole; intro g' L' h' FG' F' N' B' X' T'; (try dsimp only); (try k_fold)) | (refine' code_defC ?zz175xk1 ?zz175xk2 ?zz175xk3 ?zz175xk4 ?zz175xk5 ?zz175xkA ?zz175xkF ?zz175xkK ?zz175xk6 ?zz175xk7 ?zz175xk8 ?zz175xk9 ?zz175xkB ?zz175xkD ?_ ?zz175xc2 ?zz175xc3 ?zz175xc4; (case zz175xkA => exact rfl); (case zz175xkF => exact rfl); (case zz175xkK => first | exact rfl | assumption); (case zz175xk1 => k_asm); (case zz175xk2 => k_asm); (case zz175xk3 => k_asm); (case zz175xk4 => k_asm); (case zz175xk5 => k_asm); (case zz175xk6 => k_is); (case zz175xk7 => k_is); (case zz175xk8 => ktr_room); (case zz175xk9 => first | exact BindsTo.of_eq (binds := []) rfl | exact BindsTo.of_eq (binds := [(_, _)]) rfl | exact BindsTo.of_eq (binds := [(_, _), (_, _)]) rfl | exact BindsTo.of_eq (binds := [(_, _), (_, _), (_, _)]) rfl | exact BindsTo.of_eq (binds := [(_, _), (_, _), (_, _), (_, _)]) rfl | exact BindsTo.of_eq (binds := [(_, _), (_, _), (_, _), (_, _), (_, _)]) rfl | exact BindsTo.of_eq (binds := [(_, _), (_, _), (_, _), (_, _), (_, _), (_, _)]) rfl | exact BindsTo.of_eq (binds := [(_, _), (_, _), (_, _), (_, _), (_, _), (_, _), (_, _)]) rfl | exact BindsTo.of_eq (binds := [(_, _), (_, _), (_, _), (_, _), (_, _), (_, _), (_, _), (_, _)]) rfl | exact BindsTo.of_eq (binds := [(_, _), (_, _), (_, _), (_, _), (_, _), (_, _), (_, _), (_, _), (_, _)]) rfl | exact BindsTo.of_eq (binds := [(_, _), (_, _), (_, _), (_, _), (_, _), (_, _), (_, _), (_, _), (_, _), (_, _)]) rfl | exact binds_K (by k_in) rfl (by k_is) rfl rfl rfl); (case zz175xkB => exact rfl); (case zz175xkD => decide +kernel); (case zz175xc2 => exact rfl); (case zz175xc3 => exact rfl); (case zz175xc4 => exact rfl); k_whole; intro g' L' h' tk' cells' FG' F' N' Y' B' X' T' l1; k_cells Y'; (try simp only [List.cons_append, List.nil_append] at N'); (try dsimp only); (try k_fold)))
  k_with "call ref" => (k_here; k_dflt (refine' mk_inst ?zz161xk1 ?zz161xk2 ?zz161xk3 ?zz161xk4 ?zz161xk5 ?zz161xk6 ?_; (case zz161xk1 => k_asm); (case zz161xk2 => k_asm); (case zz161xk3 => k_asm); (case zz161xk4 => k_is); (case zz161xk5 => k_is); (case zz161xk6 => k_is); k_whole; intro x' d' o' h' F' N' a' l1 l2; (have nd' := nd_cons2 l1 l2 (by assumption)); (try k_sweep); (k_extra "ENTER")))
  k_with "setAttr ref" => (k_here; k_dflt (refine' at_set ?zz162xk1 ?zz162xk2 ?zz162xk3 ?zz162xk4 ?zz162xk5 ?zz162xk6 ?zz162xk7 ?zz162xk8 ?zz162xk9 ?zz162xk10 ?zz162xk11 ?_; (case zz162xk1 => k_asm); (case zz162xk2 => k_asm); (case zz162xk3 => k_asm); (case zz162xk4 => k_mem); (case zz162xk5 => k_updF); (case zz162xk6 => assumption); (case zz162xk7 => k_is); (case zz162xk8 => k_is); (case zz162xk9 => k_is); (case zz162xk10 => k_is); (case zz162xk11 => exact Nat.le_of_ble_eq_true rfl); k_whole; intro h' o' F' N' a'; (try dsimp only at N' a' F'); (try k_sweep)))
  k_with "setAttr ref" => (k_here; k_dflt (refine' at_again ?zz163xk1 ?zz163xk2 ?zz163xk3 ?zz163xk4 ?zz163xk5 ?zz163xk6 ?zz163xk0 ?zz163xk7 ?zz163xk8 ?zz163xk9 ?zz163xk10 ?zz163xk11 ?_; (case zz163xk1 => k_asm); (case zz163xk2 => k_asm); (case zz163xk3 => k_asm); (case zz163xk4 => k_mem); (case zz163xk5 => k_updF); (case zz163xk6 => assumption); (case zz163xk0 => first | exact rfl | assumption); (case zz163xk7 => k_is); (case zz163xk8 => k_is); (case zz163xk9 => k_is); (case zz163xk10 => k_is); (case zz163xk11 => exact Nat.le_of_ble_eq_true rfl); k_whole; intro h' o' F' N' a'; (try dsimp only at N' a' F'); (try k_sweep)))
  k_with "getAttr ref" => (k_here; k_dflt (refine' at_get ?zz164xk1 ?zz164xk2 ?zz164xk3 ?zz164xk4 ?zz164xk5 ?zz164xk6 ?zz164xk7 ?zz164xk8 ?zz164xk9 ?zz164xk10 ?zz164xk11 ?zz164xk12 ?_; (case zz164xk1 => k_asm); (case zz164xk2 => k_asm); (case zz164xk3 => k_asm); (case zz164xk4 => k_mem); (case zz164xk5 => k_mem); (case zz164xk6 => assumption); (case zz164xk7 => first | exact rfl | assumption); (case zz164xk8 => k_is); (case zz164xk9 => k_is); (case zz164xk10 => k_is); (case zz164xk11 => k_is); (case zz164xk12 => k_handed); k_whole))
  k_with "call type:list" => (k_here; (with_reducible show wpAny _ _ (call (Value.type _) [Value.ref _]) _ _ _); (with_unfolding_all refine' list_copyK ?zz165xk1 ?zz165xk2 ?zz165xk3 ?_ ?zz165xz; (case zz165xk1 => k_asm); (case zz165xk2 => k_asm); (case zz165xk3 => exact News.isList (d := none) (sl := #[]) (by k_asm) (by k_mem)); (case zz165xz => size_fits); k_whole); intro D' c' h' F' N' l1; (have nd' := nd_cons l1 (by assumption)); (try k_sweep))
  k_with "compareOp Eq ref ref" => (k_here; (with_reducible show wpAny _ _ (compareOp CmpOp.Eq (Value.ref _) (Value.ref _)) _ _ _); k_dflt (refine' ke_eq_ints (xs := []) (ys := []) ?zz166xa ?zz166xb .nil .nil ?zz166xu ?_; (case zz166xa => exact News.isList (d := none) (sl := #[]) (items := #[]) (by k_asm) (by k_mem)); (case zz166xb => exact News.isList (d := none) (sl := #[]) (items := #[]) (by k_asm) (by k_mem)); (case zz166xu => ktr_units); k_whole))
  k_with "getMethod ref" => (k_here; k_dflt (first | ((with_reducible show wpAny _ _ (getMethod (Value.ref _) (Str.ofString "get") _) _ _ _); refine' dic_method (knd := PySem.strKind _ _) PySem.F.slot_dict_get PySem.F.type_dict_get ?zz167xa ?zz167xb ?zz167xc ?_; (case zz167xa => k_asm); (case zz167xb => k_mem); (case zz167xc => assumption); k_whole) | ((with_reducible show wpAny _ _ (getMethod (Value.ref _) (Str.ofString "get") _) _ _ _); refine' dic_method (knd := PySem.intKind _ _) PySem.F.slot_dict_get PySem.F.type_dict_get ?zz167xa ?zz167xb ?zz167xc ?_; (case zz167xa => k_asm); (case zz167xb => k_mem); (case zz167xc => assumption); k_whole) | ((with_reducible show wpAny _ _ (getMethod (Value.ref _) (Str.ofString "setdefault") _) _ _ _); refine' dic_method (knd := PySem.strKind _ _) PySem.F.slot_dict_setdefault PySem.F.type_dict_setdefault ?zz167xa ?zz167xb ?zz167xc ?_; (case zz167xa => k_asm); (case zz167xb => k_mem); (case zz167xc => assumption); k_whole) | ((with_reducible show wpAny _ _ (getMethod (Value.ref _) (Str.ofString "setdefault") _) _ _ _); refine' dic_method (knd := PySem.intKind _ _) PySem.F.slot_dict_setdefault PySem.F.type_dict_setdefault ?zz167xa ?zz167xb ?zz167xc ?_; (case zz167xa => k_asm); (case zz167xb => k_mem); (case zz167xc => assumption); k_whole)))
  k_with "call builtin:dict.get" => (k_here; k_dflt (first
  | (refine' dic_get2 (knd := PySem.strKind _ _) ?zz168xa ?zz168xb ?zz168xc ?zz168xd (strKind_is _ _ _ _) ?_; (case zz168xa => k_asm); (case zz168xb => k_mem); (case zz168xc => assumption); (case zz168xd => assumption); k_whole)
  | (refine' dic_get1 (knd := PySem.intKind _ _) ?zz168xa ?zz168xb ?zz168xc ?zz168xd (intKind_is _ _ _ _) ?_; (case zz168xa => k_asm); (case zz168xb => k_mem); (case zz168xc => assumption); (case zz168xd => assumption); k_whole)); (try simp only [Option.getD_none, Option.getD_some, *]))
  k_with "call builtin:dict.setdefault" => (k_here; k_dflt (first
  | (refine' dic_default (knd := PySem.strKind _ _) ?zz169xa ?zz169xb ?zz169xc ?zz169xd ?zz169xe (strKind_is _ _ _ _) ?zz169xf ?zz169xg ?_; (case zz169xa => k_asm); (case zz169xb => k_asm); (case zz169xc => k_updF); (case zz169xd => assumption); (case zz169xe => assumption); (case zz169xf => omega); (case zz169xg => assumption); k_whole)
  | (refine' dic_default (knd := PySem.intKind _ _) ?zz169xa ?zz169xb ?zz169xc ?zz169xd ?zz169xe (intKind_is _ _ _ _) ?zz169xf ?zz169xg ?_; (case zz169xa => k_asm); (case zz169xb => k_asm); (case zz169xc => k_updF); (case zz169xd => assumption); (case zz169xe => assumption); (case zz169xf => omega); (case zz169xg => assumption); k_whole)); intro h' o' F' N' dc'; (try dsimp only at N' dc' F'); (try k_sweep))
  k_with "setItem ref str" => (k_here; k_dflt (refine' dic_set (knd := PySem.strKind _ _) ?zz170xa ?zz170xb ?zz170xc ?zz170xd (strKind_is _ _ _ _) ?zz170xf ?_; (case zz170xa => k_asm); (case zz170xb => k_asm); (case zz170xc => k_updF); (case zz170xd => assumption); (case zz170xf => omega); k_whole); intro h' o' F' N' dc'; (try dsimp only at N' dc' F'); (try k_sweep))
  k_with "newTuple" => (k_here; k_dflt (refine' kup_newTuple ?zz171xF ?zz171xN ?_ ?zz171xz; (case zz171xF => k_asm); (case zz171xN => k_asm); (case zz171xz => kmk_size)); intro D' h' F' N' l1; (try (k_dflt (have nd' := nd_cons l1 (by assumption)))); (try clear l1); (try k_sweep))
  k_with "newList" => (k_here; k_dflt (refine' newList_K ?zz172xk1 ?zz172xk2 ?_; (case zz172xk1 => k_asm); (case zz172xk2 => k_asm); k_whole); intro l' h' F' N' l1; (try (k_dflt (have nd' := nd_cons l1 (by assumption)))); (try clear l1); (try k_sweep))
  k_with "eval Dict" => (k_here; kdn_look; k_dflt (refine' kdn_str ?zz173xq ?zz173xF ?zz173xN ?zz173xb ?zz173xa ?zz173xl ?zz173xe ?zz173xn ?_; (case zz173xq => rfl); (case zz173xF => k_asm); (case zz173xN => k_asm); (case zz173xb => exact Top.nolimit (by k_asm)); (case zz173xa => rfl); (case zz173xl => rfl); (case zz173xe => exact List.cons_ne_nil _ _); (case zz173xn => exact Nat.le_of_ble_eq_true rfl)); intro d' h' o' F' N' l1 lo' hd'; (try (k_dflt (have nd' := nd_cons l1 (by assumption)))); clear l1)
  k_with "eval Dict nil nil" => (k_here; k_dflt (refine' newDict_K ?zz174xk1 ?zz174xk2 (TopRead.nolimit (by k_asm)) ?_; (case zz174xk1 => k_asm); (case zz174xk2 => k_asm); k_whole); intro d' h' o' F' N' l1 lo' hs' fs' hi' fi'; (try (k_dflt (have nd' := nd_cons l1 (by assumption)))); clear l1; (try k_sweep))
  trivial




theorem note_c {w : World} {mean : ExcName → Option Value} {mg mb : Str → Option Value}
    {dp un : Nat} {gd : Option (List Code)} {cn : Str} {cs : Scope} {a : Addr} {ccd : Value} {cl : List (Str × Addr)} {outer : List Env} {A₀ : Around} {base h₀ : Heap} {L : Addr} {m : Str → Option Value} {news : List (Addr × Obj)} {s : Shared}
    {Q E : Value → Shared → Prop} {rr drr : Addr} {odrr : Obj} {tkrr tMr tnurr tlvrr tptrr : Tok} {parr : Value} {ptrr : Str} {Mr nurr lvrr : Int} {rnrr rorr ca ta : Addr} {r dr : Addr} {odr : Obj} {kr : Str} {tkr tM1 tnu tlv tpt tj : Tok} {par : Value} {M1 nu lv j : Int} {pt : Str} {rn ro rc rh : Addr} {ot : Obj} {nt : Nat} {ft : Int → Option Value} {g : Obj → List (Addr × Obj)}
    (hr : (r, instObj 113 dr) ∈ news) (hdr : (dr, odr) ∈ news) (ar : Attrs 16 odr (at_ (regL kr tkr par rr M1 tM1 nu tnu lv tlv pt tpt rn ro rc rh)))
    (hrr : (rr, instObj 113 drr) ∈ news) (hdrr : (drr, odrr) ∈ news) (arr : Attrs 16 odrr (at_ (regL "root" tkrr parr rr Mr tMr nurr tnurr lvrr tlvrr ptrr tptrr rnrr rorr ca ta))) (dt : Dic (intKind PySem.Challenge.rw_rg0009_01.row.prog w) ot nt ft) (hft : ft j = none) (lot : (ta == sysModules) = false) (hnt : nt ≤ 1000) (hj0 : 0 ≤ j) (hj1 : j ≤ 10000)
    (B : Below A₀ base outer h₀) (F : Fr h₀ L s.heap m) (KX : (Mine.K w.params).In h₀) (T : Top Mine.q0 (looseW Mine.q0 [Str.ofString "Limits"]) mean mg mb h₀) (hk : cs.kind = .function) (N : News h₀ L s.heap news) (nd : (news.map Prod.fst).Nodup) (U : UpdF ta ot news g) (hd : dp + 10 < recursionLimit) (hu : un + 500 < cLine)
    (hret : ∀ ot' tp h' tks, Fr h₀ L h' m → News h₀ L h' ((tp, ⟨.type "tuple", none, .seq #[.ref r, .str pt tpt] 0, #[]⟩) :: g ot') → (tp :: news.map Prod.fst).Nodup → Dic (intKind PySem.Challenge.rw_rg0009_01.row.prog w) ot' (nt + 1) (fun x => if x = j then some (.ref tp) else ft x) → Q .none { s with heap := h', toks := tks }) :
    wpAny (model PySem.Challenge.rw_rg0009_01.row.prog w) (ktrTop dp un gd cn cs L a ccd cl outer) (call (.ref 171) [.ref r, .int j tj]) Q E s := by
  have hot := UpdF.mem U
  (try w_top off); revert KX; k_fill; intro KX
  refine wpAny_call ?_
  (k_extra "ENTER")
  k_steps
  all_goals exact hret _ _ _ _ (by k_asm) (by k_asm) (by assumption) (by assumption)

end Mine
end
section
open PySem PySem.W PyProof.Rows
namespace Mine
theorem ln14 : True := by
  k_with_none
  k_with "ENTER" => (first | (refine' code_def ?zz190xk1 ?zz190xk2 ?zz190xk3 ?zz190xk4 ?zz190xk5 ?zz190xkA ?zz190xkF ?zz190xkK ?zz190xk6 ?zz190xk7 ?zz190xk8 ?zz190xk9 ?zz190xkB ?_ ?zz190xc2 ?zz190xc3 ?zz190xc4 ?zz190xc5; (case zz190xkA => exact rfl); (case zz190xkF => exact rfl); (case zz190xkK => first | exact rfl | assumption); (case zz190xk1 => k_asm); (case zz190xk2 => k_asm); (case zz190xk3 => k_asm); (case zz190xk4 => k_asm); (case zz190xk5 => k_asm); (case zz190xk6 => k_is); (case zz190xk7 => k_is); (case zz190xk8 => ktr_room); (case zz190xk9 => first | exact BindsTo.of_eq (binds := []) rfl | exact BindsTo.of_eq (binds := [(_, _)]) rfl | exact BindsTo.of_eq (binds := [(_, _), (_, _)]) rfl | exact BindsTo.of_eq (binds := [(_, _), (_, _), (_, _)]) rfl | exact BindsTo.of_eq (binds := [(_, _), (_, _), (_, _), (_, _)]) rfl | exact BindsTo.of_eq (binds := [(_, _), (_, _), (_, _), (_, _), (_, _)]) rfl | exact BindsTo.of_eq (binds := [(_, _), (_, _), (_, _), (_, _), (_, _), (_, _)]) rfl | exact BindsTo.of_eq (binds := [(_, _), (_, _), (_, _), (_, _), (_, _), (_, _), (_, _)]) rfl | exact BindsTo.of_eq (binds := [(_, _), (_, _), (_, _), (_, _), (_, _), (_, _), (_, _), (_, _)]) rfl | exact BindsTo.of_eq (binds := [(_, _), (_, _), (_, _), (_, _), (_, _), (_, _), (_, _), (_, _), (_, _)]) rfl | exact BindsTo.of_eq (binds := [(_, _), (_, _), (_, _), (_, _), (_, _), (_, _), (_, _), (_, _), (_, _), (_, _)]) rfl | exact binds_K (by k_in) rfl (by k_is) rfl rfl rfl); (case zz190xc5 => decide); (case zz190xkB => exact locs rfl); (case zz190xc2 => exact rfl); (case zz190xc3 => exact rfl); (case zz190xc4 => exact rfl); k_whole; intro g' L' h' FG' F' N' B' X' T'; (try dsimp only); (try k_fold)) | (refine' code_defC ?zz190xk1 ?zz190xk2 ?zz190xk3 ?zz190xk4 ?zz190xk5 ?zz190xkA ?zz190xkF ?zz190xkK ?zz190xk6 ?zz190xk7 ?zz190xk8 ?zz190xk9 ?zz190xkB ?zz190xkD ?_ ?zz190xc2 ?zz190xc3 ?zz190xc4; (case zz190xkA => exact rfl); (case zz190xkF => exact rfl); (case zz190xkK => first | exact rfl | assumption); (case zz190xk1 => k_asm); (case zz190xk2 => k_asm); (case zz190xk3 => k_asm); (case zz190xk4 => k_asm); (case zz190xk5 => k_asm); (case zz190xk6 => k_is); (case zz190xk7 => k_is); (case zz190xk8 => ktr_room); (case zz190xk9 => first | exact BindsTo.of_eq (binds := []) rfl | exact BindsTo.of_eq (binds := [(_, _)]) rfl | exact BindsTo.of_eq (binds := [(_, _), (_, _)]) rfl | exact BindsTo.of_eq (binds := [(_, _), (_, _), (_, _)]) rfl | exact BindsTo.of_eq (binds := [(_, _), (_, _), (_, _), (_, _)]) rfl | exact BindsTo.of_eq (binds := [(_, _), (_, _), (_, _), (_, _), (_, _)]) rfl | exact BindsTo.of_eq (binds := [(_, _), (_, _), (_, _), (_, _), (_, _), (_, _)]) rfl | exact BindsTo.of_eq (binds := [(_, _), (_, _), (_, _), (_, _), (_, _), (_, _), (_, _)]) rfl | exact BindsTo.of_eq (binds := [(_, _), (_, _), (_, _), (_, _), (_, _), (_, _), (_, _), (_, _)]) rfl | exact BindsTo.of_eq (binds := [(_, _), (_, _), (_, _), (_, _), (_, _), (_, _), (_, _), (_, _), (_, _)]) rfl | exact BindsTo.of_eq (binds := [(_, _), (_, _), (_, _), (_, _), (_, _), (_, _), (_, _), (_, _), (_, _), (_, _)]) rfl | exact binds_K (by k_in) rfl (by k_is) rfl rfl rfl); (case zz190xkB => exact rfl); (case zz190xkD => decide +kernel); (case zz190xc2 => exact rfl); (case zz190xc3 => exact rfl); (case zz190xc4 => exact rfl); k_whole; intro g' L' h' tk' cells' FG' F' N' Y' B' X' T' l1; k_cells Y'; (try simp only [List.cons_append, List.nil_append] at N'); (try dsimp only); (try k_fold)))
  k_with "call ref" => (k_here; k_dflt (refine' mk_inst ?zz176xk1 ?zz176xk2 ?zz176xk3 ?zz176xk4 ?zz176xk5 ?zz176xk6 ?_; (case zz176xk1 => k_asm); (case zz176xk2 => k_asm); (case zz176xk3 => k_asm); (case zz176xk4 => k_is); (case zz176xk5 => k_is); (case zz176xk6 => k_is); k_whole; intro x' d' o' h' F' N' a' l1 l2; (have nd' := nd_cons2 l1 l2 (by assumption)); (try k_sweep); (k_extra "ENTER")))
  k_with "setAttr ref" => (k_here; k_dflt (refine' at_set ?zz177xk1 ?zz177xk2 ?zz177xk3 ?zz177xk4 ?zz177xk5 ?zz177xk6 ?zz177xk7 ?zz177xk8 ?zz177xk9 ?zz177xk10 ?zz177xk11 ?_; (case zz177xk1 => k_asm); (case zz177xk2 => k_asm); (case zz177xk3 => k_asm); (case zz177xk4 => k_mem); (case zz177xk5 => k_updF); (case zz177xk6 => assumption); (case zz177xk7 => k_is); (case zz177xk8 => k_is); (case zz177xk9 => k_is); (case zz177xk10 => k_is); (case zz177xk11 => exact Nat.le_of_ble_eq_true rfl); k_whole; intro h' o' F' N' a'; (try dsimp only at N' a' F'); (try k_sweep)))
  k_with "setAttr ref" => (k_here; k_dflt (refine' at_again ?zz178xk1 ?zz178xk2 ?zz178xk3 ?zz178xk4 ?zz178xk5 ?zz178xk6 ?zz178xk0 ?zz178xk7 ?zz178xk8 ?zz178xk9 ?zz178xk10 ?zz178xk11 ?_; (case zz178xk1 => k_asm); (case zz178xk2 => k_asm); (case zz178xk3 => k_asm); (case zz178xk4 => k_mem); (case zz178xk5 => k_updF); (case zz178xk6 => assumption); (case zz178xk0 => first | exact rfl | assumption); (case zz178xk7 => k_is); (case zz178xk8 => k_is); (case zz178xk9 => k_is); (case zz178xk10 => k_is); (case zz178xk11 => exact Nat.le_of_ble_eq_true rfl); k_whole; intro h' o' F' N' a'; (try dsimp only at N' a' F'); (try k_sweep)))
  k_with "getAttr ref" => (k_here; k_dflt (refine' at_get ?zz179xk1 ?zz179xk2 ?zz179xk3 ?zz179xk4 ?zz179xk5 ?zz179xk6 ?zz179xk7 ?zz179xk8 ?zz179xk9 ?zz179xk10 ?zz179xk11 ?zz179xk12 ?_; (case zz179xk1 => k_asm); (case zz179xk2 => k_asm); (case zz179xk3 => k_asm); (case zz179xk4 => k_mem); (case zz179xk5 => k_mem); (case zz179xk6 => assumption); (case zz179xk7 => first | exact rfl | assumption); (case zz179xk8 => k_is); (case zz179xk9 => k_is); (case zz179xk10 => k_is); (case zz179xk11 => k_is); (case zz179xk12 => k_handed); k_whole))
  k_with "call type:list" => (k_here; (with_reducible show wpAny _ _ (call (Value.type _) [Value.ref _]) _ _ _); (with_unfolding_all refine' list_copyK ?zz180xk1 ?zz180xk2 ?zz180xk3 ?_ ?zz180xz; (case zz180xk1 => k_asm); (case zz180xk2 => k_asm); (case zz180xk3 => exact News.isList (d := none) (sl := #[]) (by k_asm) (by k_mem)); (case zz180xz => size_fits); k_whole); intro D' c' h' F' N' l1; (have nd' := nd_cons l1 (by assumption)); (try k_sweep))
  k_with "compareOp Eq ref ref" => (k_here; (with_reducible show wpAny _ _ (compareOp CmpOp.Eq (Value.ref _) (Value.ref _)) _ _ _); k_dflt (refine' ke_eq_ints (xs := []) (ys := []) ?zz181xa ?zz181xb .nil .nil ?zz181xu ?_; (case zz181xa => exact News.isList (d := none) (sl := #[]) (items := #[]) (by k_asm) (by k_mem)); (case zz181xb => exact News.isList (d := none) (sl := #[]) (items := #[]) (by k_asm) (by k_mem)); (case zz181xu => ktr_units); k_whole))
  k_with "getMethod ref" => (k_here; k_dflt (first | ((with_reducible show wpAny _ _ (getMethod (Value.ref _) (Str.ofString "get") _) _ _ _); refine' dic_method (knd := PySem.strKind _ _) PySem.F.slot_dict_get PySem.F.type_dict_get ?zz182xa ?zz182xb ?zz182xc ?_; (case zz182xa => k_asm); (case zz182xb => k_mem); (case zz182xc => assumption); k_whole) | ((with_reducible show wpAny _ _ (getMethod (Value.ref _) (Str.ofString "get") _) _ _ _); refine' dic_method (knd := PySem.intKind _ _) PySem.F.slot_dict_get PySem.F.type_dict_get ?zz182xa ?zz182xb ?zz182xc ?_; (case zz182xa => k_asm); (case zz182xb => k_mem); (case zz182xc => assumption); k_whole) | ((with_reducible show wpAny _ _ (getMethod (Value.ref _) (Str.ofString "setdefault") _) _ _ _); refine' dic_method (knd := PySem.strKind _ _) PySem.F.slot_dict_setdefault PySem.F.type_dict_setdefault ?zz182xa ?zz182xb ?zz182xc ?_; (case zz182xa => k_asm); (case zz182xb => k_mem); (case zz182xc => assumption); k_whole) | ((with_reducible show wpAny _ _ (getMethod (Value.ref _) (Str.ofString "setdefault") _) _ _ _); refine' dic_method (knd := PySem.intKind _ _) PySem.F.slot_dict_setdefault PySem.F.type_dict_setdefault ?zz182xa ?zz182xb ?zz182xc ?_; (case zz182xa => k_asm); (case zz182xb => k_mem); (case zz182xc => assumption); k_whole)))
  k_with "call builtin:dict.get" => (k_here; k_dflt (first
  | (refine' dic_get2 (knd := PySem.strKind _ _) ?zz183xa ?zz183xb ?zz183xc ?zz183xd (strKind_is _ _ _ _) ?_; (case zz183xa => k_asm); (case zz183xb => k_mem); (case zz183xc => assumption); (case zz183xd => assumption); k_whole)
  | (refine' dic_get1 (knd := PySem.intKind _ _) ?zz183xa ?zz183xb ?zz183xc ?zz183xd (intKind_is _ _ _ _) ?_; (case zz183xa => k_asm); (case zz183xb => k_mem); (case zz183xc => assumption); (case zz183xd => assumption); k_whole)); (try simp only [Option.getD_none, Option.getD_some, *]))
  k_with "call builtin:dict.setdefault" => (k_here; k_dflt (first
  | (refine' dic_default (knd := PySem.strKind _ _) ?zz184xa ?zz184xb ?zz184xc ?zz184xd ?zz184xe (strKind_is _ _ _ _) ?zz184xf ?zz184xg ?_; (case zz184xa => k_asm); (case zz184xb => k_asm); (case zz184xc => k_updF); (case zz184xd => assumption); (case zz184xe => assumption); (case zz184xf => omega); (case zz184xg => assumption); k_whole)
  | (refine' dic_default (knd := PySem.intKind _ _) ?zz184xa ?zz184xb ?zz184xc ?zz184xd ?zz184xe (intKind_is _ _ _ _) ?zz184xf ?zz184xg ?_; (case zz184xa => k_asm); (case zz184xb => k_asm); (case zz184xc => k_updF); (case zz184xd => assumption); (case zz184xe => assumption); (case zz184xf => omega); (case zz184xg => assumption); k_whole)); intro h' o' F' N' dc'; (try dsimp only at N' dc' F'); (try k_sweep))
  k_with "setItem ref str" => (k_here; k_dflt (refine' dic_set (knd := PySem.strKind _ _) ?zz185xa ?zz185xb ?zz185xc ?zz185xd (strKind_is _ _ _ _) ?zz185xf ?_; (case zz185xa => k_asm); (case zz185xb => k_asm); (case zz185xc => k_updF); (case zz185xd => assumption); (case zz185xf => omega); k_whole); intro h' o' F' N' dc'; (try dsimp only at N' dc' F'); (try k_sweep))
  k_with "newTuple" => (k_here; k_dflt (refine' kup_newTuple ?zz186xF ?zz186xN ?_ ?zz186xz; (case zz186xF => k_asm); (case zz186xN => k_asm); (case zz186xz => kmk_size)); intro D' h' F' N' l1; (try (k_dflt (have nd' := nd_cons l1 (by assumption)))); (try clear l1); (try k_sweep))
  k_with "newList" => (k_here; k_dflt (refine' newList_K ?zz187xk1 ?zz187xk2 ?_; (case zz187xk1 => k_asm); (case zz187xk2 => k_asm); k_whole); intro l' h' F' N' l1; (try (k_dflt (have nd' := nd_cons l1 (by assumption)))); (try clear l1); (try k_sweep))
  k_with "eval Dict" => (k_here; kdn_look; k_dflt (refine' kdn_str ?zz188xq ?zz188xF ?zz188xN ?zz188xb ?zz188xa ?zz188xl ?zz188xe ?zz188xn ?_; (case zz188xq => rfl); (case zz188xF => k_asm); (case zz188xN => k_asm); (case zz188xb => exact Top.nolimit (by k_asm)); (case zz188xa => rfl); (case zz188xl => rfl); (case zz188xe => exact List.cons_ne_nil _ _); (case zz188xn => exact Nat.le_of_ble_eq_true rfl)); intro d' h' o' F' N' l1 lo' hd'; (try (k_dflt (have nd' := nd_cons l1 (by assumption)))); clear l1)
  k_with "eval Dict nil nil" => (k_here; k_dflt (refine' newDict_K ?zz189xk1 ?zz189xk2 (TopRead.nolimit (by k_asm)) ?_; (case zz189xk1 => k_asm); (case zz189xk2 => k_asm); k_whole); intro d' h' o' F' N' l1 lo' hs' fs' hi' fi'; (try (k_dflt (have nd' := nd_cons l1 (by assumption)))); clear l1; (try k_sweep))
  trivial



theorem own_c {w : World} {mean : ExcName → Option Value} {mg mb : Str → Option Value}
    {dp un : Nat} {gd : Option (List Code)} {cn : Str} {cs : Scope} {a : Addr} {ccd : Value} {cl : List (Str × Addr)} {outer : List Env} {A₀ : Around} {base h₀ : Heap} {L : Addr} {m : Str → Option Value} {news : List (Addr × Obj)} {s : Shared}
    {Q E : Value → Shared → Prop} {rr drr : Addr} {odrr : Obj} {tkrr tMr tnurr tlvrr tptrr : Tok} {parr : Value} {ptrr : Str} {Mr nurr lvrr : Int} {rnrr rorr ca ta : Addr} {r dr : Addr} {odr : Obj} {kr : Str} {tkr tM1 tnu tlv tpt : Tok} {par : Value} {M1 nu lv : Int} {pt : Str} {rn ro rc rh : Addr} {tj : Tok} {j : Int} {ot : Obj} {nt : Nat} {ft : Int → Option Value} {tp : Addr} {pt' : Str} {tpt' : Tok}
    (hr : (r, instObj 113 dr) ∈ news) (hdr : (dr, odr) ∈ news) (ar : Attrs 16 odr (at_ (regL kr tkr par rr M1 tM1 nu tnu lv tlv pt tpt rn ro rc rh)))
    (hrr : (rr, instObj 113 drr) ∈ news) (hdrr : (drr, odrr) ∈ news) (arr : Attrs 16 odrr (at_ (regL "root" tkrr parr rr Mr tMr nurr tnurr lvrr tlvrr ptrr tptrr rnrr rorr ca ta))) (hot : (ta, ot) ∈ news) (dt : Dic (intKind PySem.Challenge.rw_rg0009_01.row.prog w) ot nt ft) (hft : ft j = some (.ref tp)) (htp : (tp, ⟨.type "tuple", none, .seq #[.ref r, .str pt' tpt'] 0, #[]⟩) ∈ news) (lot : (ta == sysModules) = false)
    (B : Below A₀ base outer h₀) (F : Fr h₀ L s.heap m) (KX : (Mine.K w.params).In h₀) (T : Top Mine.q0 (looseW Mine.q0 [Str.ofString "Limits"]) mean mg mb h₀) (hk : cs.kind = .function) (N : News h₀ L s.heap news) (hd : dp + 10 < recursionLimit) (hu : un + 500 < cLine)
    (hret : ∀ h' tks, Fr h₀ L h' m → News h₀ L h' news → Q (.bool true) { s with heap := h', toks := tks }) :
    wpAny (model PySem.Challenge.rw_rg0009_01.row.prog w) (ktrTop dp un gd cn cs L a ccd cl outer) (call (.ref 178) [.ref r, .int j tj]) Q E s := by
  (try w_top off); revert KX; k_fill; intro KX
  refine wpAny_call ?_
  (k_extra "ENTER")
  k_steps
  all_goals (rw [show (nu == nu) = true from by simp]; exact hret _ _ (by k_asm) (by k_asm))

end Mine
end
section
open PySem PySem.W PyProof.Rows
namespace Mine
theorem ln15 : True := by
  k_with_none
  k_with "ENTER" => (first | (refine' code_def ?zz209xk1 ?zz209xk2 ?zz209xk3 ?zz209xk4 ?zz209xk5 ?zz209xkA ?zz209xkF ?zz209xkK ?zz209xk6 ?zz209xk7 ?zz209xk8 ?zz209xk9 ?zz209xkB ?_ ?zz209xc2 ?zz209xc3 ?zz209xc4 ?zz209xc5; (case zz209xkA => exact rfl); (case zz209xkF => exact rfl); (case zz209xkK => first | exact rfl | assumption); (case zz209xk1 => k_asm); (case zz209xk2 => k_asm); (case zz209xk3 => k_asm); (case zz209xk4 => k_asm); (case zz209xk5 => k_asm); (case zz209xk6 => k_is); (case zz209xk7 => k_is); (case zz209xk8 => ktr_room); (case zz209xk9 => first | exact BindsTo.of_eq (binds := []) rfl | exact BindsTo.of_eq (binds := [(_, _)]) rfl | exact BindsTo.of_eq (binds := [(_, _), (_, _)]) rfl | exact BindsTo.of_eq (binds := [(_, _), (_, _), (_, _)]) rfl | exact BindsTo.of_eq (binds := [(_, _), (_, _), (_, _), (_, _)]) rfl | exact BindsTo.of_eq (binds := [(_, _), (_, _), (_, _), (_, _), (_, _)]) rfl | exact BindsTo.of_eq (binds := [(_, _), (_, _), (_, _), (_, _), (_, _), (_, _)]) rfl | exact BindsTo.of_eq (binds := [(_, _), (_, _), (_, _), (_, _), (_, _), (_, _), (_, _)]) rfl | exact BindsTo.of_eq (binds := [(_, _), (_, _), (_, _), (_, _), (_, _), (_, _), (_, _), (_, _)]) rfl | exact BindsTo.of_eq (binds := [(_, _), (_, _), (_, _), (_, _), (_, _), (_, _), (_, _), (_, _), (_, _)]) rfl | exact BindsTo.of_eq (binds := [(_, _), (_, _), (_, _), (_, _), (_, _), (_, _), (_, _), (_, _), (_, _), (_, _)]) rfl | exact binds_K (by k_in) rfl (by k_is) rfl rfl rfl); (case zz209xc5 => decide); (case zz209xkB => exact locs rfl); (case zz209xc2 => exact rfl); (case zz209xc3 => exact rfl); (case zz209xc4 => exact rfl); k_whole; intro g' L' h' FG' F' N' B' X' T'; (try dsimp only); (try k_fold)) | (refine' code_defC ?zz209xk1 ?zz209xk2 ?zz209xk3 ?zz209xk4 ?zz209xk5 ?zz209xkA ?zz209xkF ?zz209xkK ?zz209xk6 ?zz209xk7 ?zz209xk8 ?zz209xk9 ?zz209xkB ?zz209xkD ?_ ?zz209xc2 ?zz209xc3 ?zz209xc4; (case zz209xkA => exact rfl); (case zz209xkF => exact rfl); (case zz209xkK => first | exact rfl | assumption); (case zz209xk1 => k_asm); (case zz209xk2 => k_asm); (case zz209xk3 => k_asm); (case zz209xk4 => k_asm); (case zz209xk5 => k_asm); (case zz209xk6 => k_is); (case zz209xk7 => k_is); (case zz209xk8 => ktr_room); (case zz209xk9 => first | exact BindsTo.of_eq (binds := []) rfl | exact BindsTo.of_eq (binds := [(_, _)]) rfl | exact BindsTo.of_eq (binds := [(_, _), (_, _)]) rfl | exact BindsTo.of_eq (binds := [(_, _), (_, _), (_, _)]) rfl | exact BindsTo.of_eq (binds := [(_, _), (_, _), (_, _), (_, _)]) rfl | exact BindsTo.of_eq (binds := [(_, _), (_, _), (_, _), (_, _), (_, _)]) rfl | exact BindsTo.of_eq (binds := [(_, _), (_, _), (_, _), (_, _), (_, _), (_, _)]) rfl | exact BindsTo.of_eq (binds := [(_, _), (_, _), (_, _), (_, _), (_, _), (_, _), (_, _)]) rfl | exact BindsTo.of_eq (binds := [(_, _), (_, _), (_, _), (_, _), (_, _), (_, _), (_, _), (_, _)]) rfl | exact BindsTo.of_eq (binds := [(_, _), (_, _), (_, _), (_, _), (_, _), (_, _), (_, _), (_, _), (_, _)]) rfl | exact BindsTo.of_eq (binds := [(_, _), (_, _), (_, _), (_, _), (_, _), (_, _), (_, _), (_, _), (_, _), (_, _)]) rfl | exact binds_K (by k_in) rfl (by k_is) rfl rfl rfl); (case zz209xkB => exact rfl); (case zz209xkD => decide +kernel); (case zz209xc2 => exact rfl); (case zz209xc3 => exact rfl); (case zz209xc4 => exact rfl); k_whole; intro g' L' h' tk' cells' FG' F' N' Y' B' X' T' l1; k_cells Y'; (try simp only [List.cons_append, List.nil_append] at N'); (try dsimp only); (try k_fold)))
  k_with "call ref" => (k_here; k_dflt (refine' mk_inst ?zz191xk1 ?zz191xk2 ?zz191xk3 ?zz191xk4 ?zz191xk5 ?zz191xk6 ?_; (case zz191xk1 => k_asm); (case zz191xk2 => k_asm); (case zz191xk3 => k_asm); (case zz191xk4 => k_is); (case zz191xk5 => k_is); (case zz191xk6 => k_is); k_whole; intro x' d' o' h' F' N' a' l1 l2; (have nd' := nd_cons2 l1 l2 (by assumption)); (try k_sweep); (k_extra "ENTER")))
  k_with "setAttr ref" => (k_here; k_dflt (refine' at_set ?zz192xk1 ?zz192xk2 ?zz192xk3 ?zz192xk4 ?zz192xk5 ?zz192xk6 ?zz192xk7 ?zz192xk8 ?zz192xk9 ?zz192xk10 ?zz192xk11 ?_; (case zz192xk1 => k_asm); (case zz192xk2 => k_asm); (case zz192xk3 => k_asm); (case zz192xk4 => k_mem); (case zz192xk5 => k_updF); (case zz192xk6 => assumption); (case zz192xk7 => k_is); (case zz192xk8 => k_is); (case zz192xk9 => k_is); (case zz192xk10 => k_is); (case zz192xk11 => exact Nat.le_of_ble_eq_true rfl); k_whole; intro h' o' F' N' a'; (try dsimp only at N' a' F'); (try k_sweep)))
  k_with "setAttr ref" => (k_here; k_dflt (refine' at_again ?zz193xk1 ?zz193xk2 ?zz193xk3 ?zz193xk4 ?zz193xk5 ?zz193xk6 ?zz193xk0 ?zz193xk7 ?zz193xk8 ?zz193xk9 ?zz193xk10 ?zz193xk11 ?_; (case zz193xk1 => k_asm); (case zz193xk2 => k_asm); (case zz193xk3 => k_asm); (case zz193xk4 => k_mem); (case zz193xk5 => k_updF); (case zz193xk6 => assumption); (case zz193xk0 => first | exact rfl | assumption); (case zz193xk7 => k_is); (case zz193xk8 => k_is); (case zz193xk9 => k_is); (case zz193xk10 => k_is); (case zz193xk11 => exact Nat.le_of_ble_eq_true rfl); k_whole; intro h' o' F' N' a'; (try dsimp only at N' a' F'); (try k_sweep)))
  k_with "getAttr ref" => (k_here; k_dflt (refine' at_get ?zz194xk1 ?zz194xk2 ?zz194xk3 ?zz194xk4 ?zz194xk5 ?zz194xk6 ?zz194xk7 ?zz194xk8 ?zz194xk9 ?zz194xk10 ?zz194xk11 ?zz194xk12 ?_; (case zz194xk1 => k_asm); (case zz194xk2 => k_asm); (case zz194xk3 => k_asm); (case zz194xk4 => k_mem); (case zz194xk5 => k_mem); (case zz194xk6 => assumption); (case zz194xk7 => first | exact rfl | assumption); (case zz194xk8 => k_is); (case zz194xk9 => k_is); (case zz194xk10 => k_is); (case zz194xk11 => k_is); (case zz194xk12 => k_handed); k_whole))
  k_with "call type:list" => (k_here; (with_reducible show wpAny _ _ (call (Value.type _) [Value.ref _]) _ _ _); (with_unfolding_all refine' list_copyK ?zz195xk1 ?zz195xk2 ?zz195xk3 ?_ ?zz195xz; (case zz195xk1 => k_asm); (case zz195xk2 => k_asm); (case zz195xk3 => exact News.isList (d := none) (sl := #[]) (by k_asm) (by k_mem)); (case zz195xz => size_fits); k_whole); intro D' c' h' F' N' l1; (have nd' := nd_cons l1 (by assumption)); (try k_sweep))
  k_with "compareOp Eq ref ref" => (k_here; (with_reducible show wpAny _ _ (compareOp CmpOp.Eq (Value.ref _) (Value.ref _)) _ _ _); k_dflt (refine' ke_eq_ints (xs := []) (ys := []) ?zz196xa ?zz196xb .nil .nil ?zz196xu ?_; (case zz196xa => exact News.isList (d := none) (sl := #[]) (items := #[]) (by k_asm) (by k_mem)); (case zz196xb => exact News.isList (d := none) (sl := #[]) (items := #[]) (by k_asm) (by k_mem)); (case zz196xu => ktr_units); k_whole))
  k_with "getMethod ref" => (k_here; k_dflt (first | ((with_reducible show wpAny _ _ (getMethod (Value.ref _) (Str.ofString "get") _) _ _ _); refine' dic_method (knd := PySem.strKind _ _) PySem.F.slot_dict_get PySem.F.type_dict_get ?zz197xa ?zz197xb ?zz197xc ?_; (case zz197xa => k_asm); (case zz197xb => k_mem); (case zz197xc => assumption); k_whole) | ((with_reducible show wpAny _ _ (getMethod (Value.ref _) (Str.ofString "get") _) _ _ _); refine' dic_method (knd := PySem.intKind _ _) PySem.F.slot_dict_get PySem.F.type_dict_get ?zz197xa ?zz197xb ?zz197xc ?_; (case zz197xa => k_asm); (case zz197xb => k_mem); (case zz197xc => assumption); k_whole) | ((with_reducible show wpAny _ _ (getMethod (Value.ref _) (Str.ofString "setdefault") _) _ _ _); refine' dic_method (knd := PySem.strKind _ _) PySem.F.slot_dict_setdefault PySem.F.type_dict_setdefault ?zz197xa ?zz197xb ?zz197xc ?_; (case zz197xa => k_asm); (case zz197xb => k_mem); (case zz197xc => assumption); k_whole) | ((with_reducible show wpAny _ _ (getMethod (Value.ref _) (Str.ofString "setdefault") _) _ _ _); refine' dic_method (knd := PySem.intKind _ _) PySem.F.slot_dict_setdefault PySem.F.type_dict_setdefault ?zz197xa ?zz197xb ?zz197xc ?_; (case zz197xa => k_asm); (case zz197xb => k_mem); (case zz197xc => assumption); k_whole)))
  k_with "call builtin:dict.get" => (k_here; k_dflt (first
  | (refine' dic_get2 (knd := PySem.strKind _ _) ?zz198xa ?zz198xb ?zz198xc ?zz198xd (strKind_is _ _ _ _) ?_; (case zz198xa => k_asm); (case zz198xb => k_mem); (case zz198xc => assumption); (case zz198xd => assumption); k_whole)
  | (refine' dic_get1 (knd := PySem.intKind _ _) ?zz198xa ?zz198xb ?zz198xc ?zz198xd (intKind_is _ _ _ _) ?_; (case zz198xa => k_asm); (case zz198xb => k_mem); (case zz198xc => assumption); (case zz198xd => assumption); k_whole)); (try simp only [Option.getD_none, Option.getD_some, *]))
  k_with "call builtin:dict.setdefault" => (k_here; k_dflt (first
  | (refine' dic_default (knd := PySem.strKind _ _) ?zz199xa ?zz199xb ?zz199xc ?zz199xd ?zz199xe (strKind_is _ _ _ _) ?zz199xf ?zz199xg ?_; (case zz199xa => k_asm); (case zz199xb => k_asm); (case zz199xc => k_updF); (case zz199xd => assumption); (case zz199xe => assumption); (case zz199xf => omega); (case zz199xg => assumption); k_whole)
  | (refine' dic_default (knd := PySem.intKind _ _) ?zz199xa ?zz199xb ?zz199xc ?zz199xd ?zz199xe (intKind_is _ _ _ _) ?zz199xf ?zz199xg ?_; (case zz199xa => k_asm); (case zz199xb => k_asm); (case zz199xc => k_updF); (case zz199xd => assumption); (case zz199xe => assumption); (case zz199xf => omega); (case zz199xg => assumption); k_whole)); intro h' o' F' N' dc'; (try dsimp only at N' dc' F'); (try k_sweep))
  k_with "setItem ref str" => (k_here; k_dflt (refine' dic_set (knd := PySem.strKind _ _) ?zz200xa ?zz200xb ?zz200xc ?zz200xd (strKind_is _ _ _ _) ?zz200xf ?_; (case zz200xa => k_asm); (case zz200xb => k_asm); (case zz200xc => k_updF); (case zz200xd => assumption); (case zz200xf => omega); k_whole); intro h' o' F' N' dc'; (try dsimp only at N' dc' F'); (try k_sweep))
  k_with "newTuple" => (k_here; k_dflt (refine' kup_newTuple ?zz201xF ?zz201xN ?_ ?zz201xz; (case zz201xF => k_asm); (case zz201xN => k_asm); (case zz201xz => kmk_size)); intro D' h' F' N' l1; (try (k_dflt (have nd' := nd_cons l1 (by assumption)))); (try clear l1); (try k_sweep))
  k_with "newList" => (k_here; k_dflt (refine' newList_K ?zz202xk1 ?zz202xk2 ?_; (case zz202xk1 => k_asm); (case zz202xk2 => k_asm); k_whole); intro l' h' F' N' l1; (try (k_dflt (have nd' := nd_cons l1 (by assumption)))); (try clear l1); (try k_sweep))
  k_with "eval Dict" => (k_here; kdn_look; k_dflt (refine' kdn_str ?zz203xq ?zz203xF ?zz203xN ?zz203xb ?zz203xa ?zz203xl ?zz203xe ?zz203xn ?_; (case zz203xq => rfl); (case zz203xF => k_asm); (case zz203xN => k_asm); (case zz203xb => exact Top.nolimit (by k_asm)); (case zz203xa => rfl); (case zz203xl => rfl); (case zz203xe => exact List.cons_ne_nil _ _); (case zz203xn => exact Nat.le_of_ble_eq_true rfl)); intro d' h' o' F' N' l1 lo' hd'; (try (k_dflt (have nd' := nd_cons l1 (by assumption)))); clear l1)
  k_with "eval Dict nil nil" => (k_here; k_dflt (refine' newDict_K ?zz204xk1 ?zz204xk2 (TopRead.nolimit (by k_asm)) ?_; (case zz204xk1 => k_asm); (case zz204xk2 => k_asm); k_whole); intro d' h' o' F' N' l1 lo' hs' fs' hi' fi'; (try (k_dflt (have nd' := nd_cons l1 (by assumption)))); clear l1; (try k_sweep))
  k_with "eval Name" => (k_here; (with_reducible show wpAny _ _ (eval (Expr.Name _ _) (compEnvC _ _ _ _)) _ _ _); k_dflt (first | (refine' ldVarK (Fr.ns ?zz205xF) ?zz205xhv ?_; (case zz205xF => k_asm); (case zz205xhv => assumption)) | (refine kcf_cell (by k_asm) (by rfl) (by k_mem) (by k_asm) ?_)))
  k_with "eval ListComp" => (k_here; k_dflt (refine' compQ ?zz206xF0 ?zz206xhh ?zz206xa ?zz206xb ?zz206xc ?zz206xd ?zz206xe ?_ ?zz206xf; (case zz206xF0 => k_asm); (case zz206xhh => exact rfl); (case zz206xa => exact rfl); (case zz206xb => decide); (case zz206xc => exact rfl); (case zz206xd => decide); (case zz206xe => exact rfl); (case zz206xf => intro _; exact rfl); k_whole))
  k_with "call builtin:sorted" => (k_here; k_dflt (refine' kdu_sortedD (knd := PySem.strKind _ _) (enc := PyData.str) (fun _ _ => kdl_flat_str) ?zz207xhh ?zz207xF ?zz207xN ?zz207xT ?zz207xu ?_; (case zz207xhh => exact rfl); (case zz207xF => k_asm); (case zz207xN => k_asm); (case zz207xT => exact TabAt.ofNews (by k_asm) (by k_mem) (by k_asm) (by k_asm) (by k_asm)); (case zz207xu => k_units)); intro D' h' tk'; kdl_open)
  k_with "call builtin:list.sort" => (k_here; k_dflt (refine' sort_one ?zz208xF ?zz208xN ?zz208xU ?_; (case zz208xF => k_asm); (case zz208xN => k_asm); (case zz208xU => k_updF)); intro c' h' F' N'; (try dsimp only at N' F'))
  trivial



theorem keys0 {w : World} {mean : ExcName → Option Value} {mg mb : Str → Option Value}
    {dp un : Nat} {gd : Option (List Code)} {cn : Str} {cs : Scope} {a : Addr} {ccd : Value} {cl : List (Str × Addr)} {outer : List Env} {A₀ : Around} {base h₀ : Heap} {L : Addr} {m : Str → Option Value} {news : List (Addr × Obj)} {s : Shared}
    {Q E : Value → Shared → Prop} {t dt od : Addr} {ot oo : Obj} {k : Nat} {mt : Str → Option Value} (ht : (t, instObj 271 dt) ∈ news) (hdt : (dt, ot) ∈ news) (at1 : Attrs k ot mt) (at2 : mt (Str.ofString "operations") = some (.ref od))
    (hod : (od, oo) ∈ news) (doo : oo.IsDictOf (strKind PySem.Challenge.rw_rg0009_01.row.prog w) []) (dfl : PyProof.V.FlatPairs PyData.str [] []) (lod : (od == sysModules) = false)
    (B : Below A₀ base outer h₀) (F : Fr h₀ L s.heap m) (KX : (Mine.K w.params).In h₀) (T : Top Mine.q0 (looseW Mine.q0 [Str.ofString "Limits"]) mean mg mb h₀) (hk : cs.kind = .function) (N : News h₀ L s.heap news) (hd : dp + 10 < recursionLimit) (hu : un + 500 < cLine)
    (hret : ∀ D0 c its h' tks, its = [] → Fr h₀ L h' m → News h₀ L h' ((D0, PySem.W.listOf (List.toArray its) c) :: news) → Q (.ref D0) { s with heap := h', toks := tks }) :
    wpAny (model PySem.Challenge.rw_rg0009_01.row.prog w) (ktrTop dp un gd cn cs L a ccd cl outer) (call (.ref 183) [.ref t]) Q E s := by
  (try w_top off); revert KX; k_fill; intro KX
  refine wpAny_call ?_
  (k_extra "ENTER")
  k_steps
  all_goals (refine CompQ.none (by k_asm) (by k_asm) (Src1.list0 (by k_mem) (by assumption) (by assumption)) ?_; intro D0 c its h' tk hits F' N' hne; k_steps; all_goals exact hret _ _ _ _ _ hits (by k_asm) (by ktr_rel))

end Mine
end
section
open PySem PySem.W PyProof.Rows
namespace Mine
theorem ln16 : True := by
  k_with_none
  k_with "ENTER" => (first | (refine' code_def ?zz228xk1 ?zz228xk2 ?zz228xk3 ?zz228xk4 ?zz228xk5 ?zz228xkA ?zz228xkF ?zz228xkK ?zz228xk6 ?zz228xk7 ?zz228xk8 ?zz228xk9 ?zz228xkB ?_ ?zz228xc2 ?zz228xc3 ?zz228xc4 ?zz228xc5; (case zz228xkA => exact rfl); (case zz228xkF => exact rfl); (case zz228xkK => first | exact rfl | assumption); (case zz228xk1 => k_asm); (case zz228xk2 => k_asm); (case zz228xk3 => k_asm); (case zz228xk4 => k_asm); (case zz228xk5 => k_asm); (case zz228xk6 => k_is); (case zz228xk7 => k_is); (case zz228xk8 => ktr_room); (case zz228xk9 => first | exact BindsTo.of_eq (binds := []) rfl | exact BindsTo.of_eq (binds := [(_, _)]) rfl | exact BindsTo.of_eq (binds := [(_, _), (_, _)]) rfl | exact BindsTo.of_eq (binds := [(_, _), (_, _), (_, _)]) rfl | exact BindsTo.of_eq (binds := [(_, _), (_, _), (_, _), (_, _)]) rfl | exact BindsTo.of_eq (binds := [(_, _), (_, _), (_, _), (_, _), (_, _)]) rfl | exact BindsTo.of_eq (binds := [(_, _), (_, _), (_, _), (_, _), (_, _), (_, _)]) rfl | exact BindsTo.of_eq (binds := [(_, _), (_, _), (_, _), (_, _), (_, _), (_, _), (_, _)]) rfl | exact BindsTo.of_eq (binds := [(_, _), (_, _), (_, _), (_, _), (_, _), (_, _), (_, _), (_, _)]) rfl | exact BindsTo.of_eq (binds := [(_, _), (_, _), (_, _), (_, _), (_, _), (_, _), (_, _), (_, _), (_, _)]) rfl | exact BindsTo.of_eq (binds := [(_, _), (_, _), (_, _), (_, _), (_, _), (_, _), (_, _), (_, _), (_, _), (_, _)]) rfl | exact binds_K (by k_in) rfl (by k_is) rfl rfl rfl); (case zz228xc5 => decide); (case zz228xkB => exact locs rfl); (case zz228xc2 => exact rfl); (case zz228xc3 => exact rfl); (case zz228xc4 => exact rfl); k_whole; intro g' L' h' FG' F' N' B' X' T'; (try dsimp only); (try k_fold)) | (refine' code_defC ?zz228xk1 ?zz228xk2 ?zz228xk3 ?zz228xk4 ?zz228xk5 ?zz228xkA ?zz228xkF ?zz228xkK ?zz228xk6 ?zz228xk7 ?zz228xk8 ?zz228xk9 ?zz228xkB ?zz228xkD ?_ ?zz228xc2 ?zz228xc3 ?zz228xc4; (case zz228xkA => exact rfl); (case zz228xkF => exact rfl); (case zz228xkK => first | exact rfl | assumption); (case zz228xk1 => k_asm); (case zz228xk2 => k_asm); (case zz228xk3 => k_asm); (case zz228xk4 => k_asm); (case zz228xk5 => k_asm); (case zz228xk6 => k_is); (case zz228xk7 => k_is); (case zz228xk8 => ktr_room); (case zz228xk9 => first | exact BindsTo.of_eq (binds := []) rfl | exact BindsTo.of_eq (binds := [(_, _)]) rfl | exact BindsTo.of_eq (binds := [(_, _), (_, _)]) rfl | exact BindsTo.of_eq (binds := [(_, _), (_, _), (_, _)]) rfl | exact BindsTo.of_eq (binds := [(_, _), (_, _), (_, _), (_, _)]) rfl | exact BindsTo.of_eq (binds := [(_, _), (_, _), (_, _), (_, _), (_, _)]) rfl | exact BindsTo.of_eq (binds := [(_, _), (_, _), (_, _), (_, _), (_, _), (_, _)]) rfl | exact BindsTo.of_eq (binds := [(_, _), (_, _), (_, _), (_, _), (_, _), (_, _), (_, _)]) rfl | exact BindsTo.of_eq (binds := [(_, _), (_, _), (_, _), (_, _), (_, _), (_, _), (_, _), (_, _)]) rfl | exact BindsTo.of_eq (binds := [(_, _), (_, _), (_, _), (_, _), (_, _), (_, _), (_, _), (_, _), (_, _)]) rfl | exact BindsTo.of_eq (binds := [(_, _), (_, _), (_, _), (_, _), (_, _), (_, _), (_, _), (_, _), (_, _), (_, _)]) rfl | exact binds_K (by k_in) rfl (by k_is) rfl rfl rfl); (case zz228xkB => exact rfl); (case zz228xkD => decide +kernel); (case zz228xc2 => exact rfl); (case zz228xc3 => exact rfl); (case zz228xc4 => exact rfl); k_whole; intro g' L' h' tk' cells' FG' F' N' Y' B' X' T' l1; k_cells Y'; (try simp only [List.cons_append, List.nil_append] at N'); (try dsimp only); (try k_fold)))
  k_with "call ref" => (k_here; k_dflt (refine' mk_inst ?zz210xk1 ?zz210xk2 ?zz210xk3 ?zz210xk4 ?zz210xk5 ?zz210xk6 ?_; (case zz210xk1 => k_asm); (case zz210xk2 => k_asm); (case zz210xk3 => k_asm); (case zz210xk4 => k_is); (case zz210xk5 => k_is); (case zz210xk6 => k_is); k_whole; intro x' d' o' h' F' N' a' l1 l2; (have nd' := nd_cons2 l1 l2 (by assumption)); (try k_sweep); (k_extra "ENTER")))
  k_with "setAttr ref" => (k_here; k_dflt (refine' at_set ?zz211xk1 ?zz211xk2 ?zz211xk3 ?zz211xk4 ?zz211xk5 ?zz211xk6 ?zz211xk7 ?zz211xk8 ?zz211xk9 ?zz211xk10 ?zz211xk11 ?_; (case zz211xk1 => k_asm); (case zz211xk2 => k_asm); (case zz211xk3 => k_asm); (case zz211xk4 => k_mem); (case zz211xk5 => k_updF); (case zz211xk6 => assumption); (case zz211xk7 => k_is); (case zz211xk8 => k_is); (case zz211xk9 => k_is); (case zz211xk10 => k_is); (case zz211xk11 => exact Nat.le_of_ble_eq_true rfl); k_whole; intro h' o' F' N' a'; (try dsimp only at N' a' F'); (try k_sweep)))
  k_with "setAttr ref" => (k_here; k_dflt (refine' at_again ?zz212xk1 ?zz212xk2 ?zz212xk3 ?zz212xk4 ?zz212xk5 ?zz212xk6 ?zz212xk0 ?zz212xk7 ?zz212xk8 ?zz212xk9 ?zz212xk10 ?zz212xk11 ?_; (case zz212xk1 => k_asm); (case zz212xk2 => k_asm); (case zz212xk3 => k_asm); (case zz212xk4 => k_mem); (case zz212xk5 => k_updF); (case zz212xk6 => assumption); (case zz212xk0 => first | exact rfl | assumption); (case zz212xk7 => k_is); (case zz212xk8 => k_is); (case zz212xk9 => k_is); (case zz212xk10 => k_is); (case zz212xk11 => exact Nat.le_of_ble_eq_true rfl); k_whole; intro h' o' F' N' a'; (try dsimp only at N' a' F'); (try k_sweep)))
  k_with "getAttr ref" => (k_here; k_dflt (refine' at_get ?zz213xk1 ?zz213xk2 ?zz213xk3 ?zz213xk4 ?zz213xk5 ?zz213xk6 ?zz213xk7 ?zz213xk8 ?zz213xk9 ?zz213xk10 ?zz213xk11 ?zz213xk12 ?_; (case zz213xk1 => k_asm); (case zz213xk2 => k_asm); (case zz213xk3 => k_asm); (case zz213xk4 => k_mem); (case zz213xk5 => k_mem); (case zz213xk6 => assumption); (case zz213xk7 => first | exact rfl | assumption); (case zz213xk8 => k_is); (case zz213xk9 => k_is); (case zz213xk10 => k_is); (case zz213xk11 => k_is); (case zz213xk12 => k_handed); k_whole))
  k_with "call type:list" => (k_here; (with_reducible show wpAny _ _ (call (Value.type _) [Value.ref _]) _ _ _); (with_unfolding_all refine' list_copyK ?zz214xk1 ?zz214xk2 ?zz214xk3 ?_ ?zz214xz; (case zz214xk1 => k_asm); (case zz214xk2 => k_asm); (case zz214xk3 => exact News.isList (d := none) (sl := #[]) (by k_asm) (by k_mem)); (case zz214xz => size_fits); k_whole); intro D' c' h' F' N' l1; (have nd' := nd_cons l1 (by assumption)); (try k_sweep))
  k_with "compareOp Eq ref ref" => (k_here; (with_reducible show wpAny _ _ (compareOp CmpOp.Eq (Value.ref _) (Value.ref _)) _ _ _); k_dflt (refine' ke_eq_ints (xs := []) (ys := []) ?zz215xa ?zz215xb .nil .nil ?zz215xu ?_; (case zz215xa => exact News.isList (d := none) (sl := #[]) (items := #[]) (by k_asm) (by k_mem)); (case zz215xb => exact News.isList (d := none) (sl := #[]) (items := #[]) (by k_asm) (by k_mem)); (case zz215xu => ktr_units); k_whole))
  k_with "getMethod ref" => (k_here; k_dflt (first | ((with_reducible show wpAny _ _ (getMethod (Value.ref _) (Str.ofString "get") _) _ _ _); refine' dic_method (knd := PySem.strKind _ _) PySem.F.slot_dict_get PySem.F.type_dict_get ?zz216xa ?zz216xb ?zz216xc ?_; (case zz216xa => k_asm); (case zz216xb => k_mem); (case zz216xc => assumption); k_whole) | ((with_reducible show wpAny _ _ (getMethod (Value.ref _) (Str.ofString "get") _) _ _ _); refine' dic_method (knd := PySem.intKind _ _) PySem.F.slot_dict_get PySem.F.type_dict_get ?zz216xa ?zz216xb ?zz216xc ?_; (case zz216xa => k_asm); (case zz216xb => k_mem); (case zz216xc => assumption); k_whole) | ((with_reducible show wpAny _ _ (getMethod (Value.ref _) (Str.ofString "setdefault") _) _ _ _); refine' dic_method (knd := PySem.strKind _ _) PySem.F.slot_dict_setdefault PySem.F.type_dict_setdefault ?zz216xa ?zz216xb ?zz216xc ?_; (case zz216xa => k_asm); (case zz216xb => k_mem); (case zz216xc => assumption); k_whole) | ((with_reducible show wpAny _ _ (getMethod (Value.ref _) (Str.ofString "setdefault") _) _ _ _); refine' dic_method (knd := PySem.intKind _ _) PySem.F.slot_dict_setdefault PySem.F.type_dict_setdefault ?zz216xa ?zz216xb ?zz216xc ?_; (case zz216xa => k_asm); (case zz216xb => k_mem); (case zz216xc => assumption); k_whole)))
  k_with "call builtin:dict.get" => (k_here; k_dflt (first
  | (refine' dic_get2 (knd := PySem.strKind _ _) ?zz217xa ?zz217xb ?zz217xc ?zz217xd (strKind_is _ _ _ _) ?_; (case zz217xa => k_asm); (case zz217xb => k_mem); (case zz217xc => assumption); (case zz217xd => assumption); k_whole)
  | (refine' dic_get1 (knd := PySem.intKind _ _) ?zz217xa ?zz217xb ?zz217xc ?zz217xd (intKind_is _ _ _ _) ?_; (case zz217xa => k_asm); (case zz217xb => k_mem); (case zz217xc => assumption); (case zz217xd => assumption); k_whole)); (try simp only [Option.getD_none, Option.getD_some, *]))
  k_with "call builtin:dict.setdefault" => (k_here; k_dflt (first
  | (refine' dic_default (knd := PySem.strKind _ _) ?zz218xa ?zz218xb ?zz218xc ?zz218xd ?zz218xe (strKind_is _ _ _ _) ?zz218xf ?zz218xg ?_; (case zz218xa => k_asm); (case zz218xb => k_asm); (case zz218xc => k_updF); (case zz218xd => assumption); (case zz218xe => assumption); (case zz218xf => omega); (case zz218xg => assumption); k_whole)
  | (refine' dic_default (knd := PySem.intKind _ _) ?zz218xa ?zz218xb ?zz218xc ?zz218xd ?zz218xe (intKind_is _ _ _ _) ?zz218xf ?zz218xg ?_; (case zz218xa => k_asm); (case zz218xb => k_asm); (case zz218xc => k_updF); (case zz218xd => assumption); (case zz218xe => assumption); (case zz218xf => omega); (case zz218xg => assumption); k_whole)); intro h' o' F' N' dc'; (try dsimp only at N' dc' F'); (try k_sweep))
  k_with "setItem ref str" => (k_here; k_dflt (refine' dic_set (knd := PySem.strKind _ _) ?zz219xa ?zz219xb ?zz219xc ?zz219xd (strKind_is _ _ _ _) ?zz219xf ?_; (case zz219xa => k_asm); (case zz219xb => k_asm); (case zz219xc => k_updF); (case zz219xd => assumption); (case zz219xf => omega); k_whole); intro h' o' F' N' dc'; (try dsimp only at N' dc' F'); (try k_sweep))
  k_with "newTuple" => (k_here; k_dflt (refine' kup_newTuple ?zz220xF ?zz220xN ?_ ?zz220xz; (case zz220xF => k_asm); (case zz220xN => k_asm); (case zz220xz => kmk_size)); intro D' h' F' N' l1; (try (k_dflt (have nd' := nd_cons l1 (by assumption)))); (try clear l1); (try k_sweep))
  k_with "newList" => (k_here; k_dflt (refine' newList_K ?zz221xk1 ?zz221xk2 ?_; (case zz221xk1 => k_asm); (case zz221xk2 => k_asm); k_whole); intro l' h' F' N' l1; (try (k_dflt (have nd' := nd_cons l1 (by assumption)))); (try clear l1); (try k_sweep))
  k_with "eval Dict" => (k_here; kdn_look; k_dflt (refine' kdn_str ?zz222xq ?zz222xF ?zz222xN ?zz222xb ?zz222xa ?zz222xl ?zz222xe ?zz222xn ?_; (case zz222xq => rfl); (case zz222xF => k_asm); (case zz222xN => k_asm); (case zz222xb => exact Top.nolimit (by k_asm)); (case zz222xa => rfl); (case zz222xl => rfl); (case zz222xe => exact List.cons_ne_nil _ _); (case zz222xn => exact Nat.le_of_ble_eq_true rfl)); intro d' h' o' F' N' l1 lo' hd'; (try (k_dflt (have nd' := nd_cons l1 (by assumption)))); clear l1)
  k_with "eval Dict nil nil" => (k_here; k_dflt (refine' newDict_K ?zz223xk1 ?zz223xk2 (TopRead.nolimit (by k_asm)) ?_; (case zz223xk1 => k_asm); (case zz223xk2 => k_asm); k_whole); intro d' h' o' F' N' l1 lo' hs' fs' hi' fi'; (try (k_dflt (have nd' := nd_cons l1 (by assumption)))); clear l1; (try k_sweep))
  k_with "eval Name" => (k_here; (with_reducible show wpAny _ _ (eval (Expr.Name _ _) (compEnvC _ _ _ _)) _ _ _); k_dflt (first | (refine' ldVarK (Fr.ns ?zz224xF) ?zz224xhv ?_; (case zz224xF => k_asm); (case zz224xhv => assumption)) | (refine kcf_cell (by k_asm) (by rfl) (by k_mem) (by k_asm) ?_)))
  k_with "eval ListComp" => (k_here; k_dflt (refine' compQ ?zz225xF0 ?zz225xhh ?zz225xa ?zz225xb ?zz225xc ?zz225xd ?zz225xe ?_ ?zz225xf; (case zz225xF0 => k_asm); (case zz225xhh => exact rfl); (case zz225xa => exact rfl); (case zz225xb => decide); (case zz225xc => exact rfl); (case zz225xd => decide); (case zz225xe => exact rfl); (case zz225xf => intro _; exact rfl); k_whole))
  k_with "call builtin:sorted" => (k_here; k_dflt (refine' kdu_sortedD (knd := PySem.strKind _ _) (enc := PyData.str) (fun _ _ => kdl_flat_str) ?zz226xhh ?zz226xF ?zz226xN ?zz226xT ?zz226xu ?_; (case zz226xhh => exact rfl); (case zz226xF => k_asm); (case zz226xN => k_asm); (case zz226xT => exact TabAt.ofNews (by k_asm) (by k_mem) (by k_asm) (by k_asm) (by k_asm)); (case zz226xu => k_units)); intro D' h' tk'; kdl_open)
  k_with "call builtin:list.sort" => (k_here; k_dflt (refine' sort_one ?zz227xF ?zz227xN ?zz227xU ?_; (case zz227xF => k_asm); (case zz227xN => k_asm); (case zz227xU => k_updF)); intro c' h' F' N'; (try dsimp only at N' F'))
  trivial



theorem keys1 {w : World} {mean : ExcName → Option Value} {mg mb : Str → Option Value}
    {dp un : Nat} {gd : Option (List Code)} {cn : Str} {cs : Scope} {a : Addr} {ccd : Value} {cl : List (Str × Addr)} {outer : List Env} {A₀ : Around} {base h₀ : Heap} {L : Addr} {m : Str → Option Value} {news : List (Addr × Obj)} {s : Shared}
    {Q E : Value → Shared → Prop} {t dt od : Addr} {ot oo : Obj} {k : Nat} {mt : Str → Option Value} {ta1 : Tok} (ht : (t, instObj 271 dt) ∈ news) (hdt : (dt, ot) ∈ news) (at1 : Attrs k ot mt) (at2 : mt (Str.ofString "operations") = some (.ref od))
    (hod : (od, oo) ∈ news) (doo : oo.IsDictOf (strKind PySem.Challenge.rw_rg0009_01.row.prog w) [(Str.ofString "f inself", .str (Str.ofString "f.1") ta1)]) (dfl : PyProof.V.FlatPairs PyData.str [(Str.ofString "f inself", .str (Str.ofString "f.1") ta1)] [(.str (Str.ofString "f inself"), .str (Str.ofString "f.1"))]) (lod : (od == sysModules) = false)
    (B : Below A₀ base outer h₀) (F : Fr h₀ L s.heap m) (KX : (Mine.K w.params).In h₀) (T : Top Mine.q0 (looseW Mine.q0 [Str.ofString "Limits"]) mean mg mb h₀) (hk : cs.kind = .function) (N : News h₀ L s.heap news) (hd : dp + 10 < recursionLimit) (hu : un + 500 < cLine)
    (hret : ∀ D0 c its h' tks, its = [] → Fr h₀ L h' m → News h₀ L h' ((D0, PySem.W.listOf (List.toArray its) c) :: news) → Q (.ref D0) { s with heap := h', toks := tks }) :
    wpAny (model PySem.Challenge.rw_rg0009_01.row.prog w) (ktrTop dp un gd cn cs L a ccd cl outer) (call (.ref 183) [.ref t]) Q E s := by
  (try w_top off); revert KX; k_fill; intro KX
  refine wpAny_call ?_
  (k_extra "ENTER")
  k_steps
  all_goals (refine CompQ.drop (by k_asm) (by k_asm) (Src1.list1 (by k_mem)) ?_ ?_)
  · intro C s₃ m₃ tk E' F₃ N₃ hx
    k_steps
    all_goals (first | exact ⟨_, _, rfl, fun _ _ e => e⟩ | exact ⟨rfl, _, _, rfl, fun _ _ e => e⟩ | exact ⟨⟨_, rfl⟩, _, _, rfl, fun _ _ e => e⟩ | exact ⟨_, rfl⟩)
  · (intro D0 c its h' tk hits F' N' hne; k_steps; all_goals exact hret _ _ _ _ _ hits (by k_asm) (by ktr_rel))

end Mine
end
section
open PySem PySem.W PyProof.Rows
namespace Mine
theorem ln17 : True := by
  k_with_none
  k_with "ENTER" => (first | (refine' code_def ?zz247xk1 ?zz247xk2 ?zz247xk3 ?zz247xk4 ?zz247xk5 ?zz247xkA ?zz247xkF ?zz247xkK ?zz247xk6 ?zz247xk7 ?zz247xk8 ?zz247xk9 ?zz247xkB ?_ ?zz247xc2 ?zz247xc3 ?zz247xc4 ?zz247xc5; (case zz247xkA => exact rfl); (case zz247xkF => exact rfl); (case zz247xkK => first | exact rfl | assumption); (case zz247xk1 => k_asm); (case zz247xk2 => k_asm); (case zz247xk3 => k_asm); (case zz247xk4 => k_asm); (case zz247xk5 => k_asm); (case zz247xk6 => k_is); (case zz247xk7 => k_is); (case zz247xk8 => ktr_room); (case zz247xk9 => first | exact BindsTo.of_eq (binds := []) rfl | exact BindsTo.of_eq (binds := [(_, _)]) rfl | exact BindsTo.of_eq (binds := [(_, _), (_, _)]) rfl | exact BindsTo.of_eq (binds := [(_, _), (_, _), (_, _)]) rfl | exact BindsTo.of_eq (binds := [(_, _), (_, _), (_, _), (_, _)]) rfl | exact BindsTo.of_eq (binds := [(_, _), (_, _), (_, _), (_, _), (_, _)]) rfl | exact BindsTo.of_eq (binds := [(_, _), (_, _), (_, _), (_, _), (_, _), (_, _)]) rfl | exact BindsTo.of_eq (binds := [(_, _), (_, _), (_, _), (_, _), (_, _), (_, _), (_, _)]) rfl | exact BindsTo.of_eq (binds := [(_, _), (_, _), (_, _), (_, _), (_, _), (_, _), (_, _), (_, _)]) rfl | exact BindsTo.of_eq (binds := [(_, _), (_, _), (_, _), (_, _), (_, _), (_, _), (_, _), (_, _), (_, _)]) rfl | exact BindsTo.of_eq (binds := [(_, _), (_, _), (_, _), (_, _), (_, _), (_, _), (_, _), (_, _), (_, _), (_, _)]) rfl | exact binds_K (by k_in) rfl (by k_is) rfl rfl rfl); (case zz247xc5 => decide); (case zz247xkB => exact locs rfl); (case zz247xc2 => exact rfl); (case zz247xc3 => exact rfl); (case zz247xc4 => exact rfl); k_whole; intro g' L' h' FG' F' N' B' X' T'; (try dsimp only); (try k_fold)) | (refine' code_defC ?zz247xk1 ?zz247xk2 ?zz247xk3 ?zz247xk4 ?zz247xk5 ?zz247xkA ?zz247xkF ?zz247xkK ?zz247xk6 ?zz247xk7 ?zz247xk8 ?zz247xk9 ?zz247xkB ?zz247xkD ?_ ?zz247xc2 ?zz247xc3 ?zz247xc4; (case zz247xkA => exact rfl); (case zz247xkF => exact rfl); (case zz247xkK => first | exact rfl | assumption); (case zz247xk1 => k_asm); (case zz247xk2 => k_asm); (case zz247xk3 => k_asm); (case zz247xk4 => k_asm); (case zz247xk5 => k_asm); (case zz247xk6 => k_is); (case zz247xk7 => k_is); (case zz247xk8 => ktr_room); (case zz247xk9 => first | exact BindsTo.of_eq (binds := []) rfl | exact BindsTo.of_eq (binds := [(_, _)]) rfl | exact BindsTo.of_eq (binds := [(_, _), (_, _)]) rfl | exact BindsTo.of_eq (binds := [(_, _), (_, _), (_, _)]) rfl | exact BindsTo.of_eq (binds := [(_, _), (_, _), (_, _), (_, _)]) rfl | exact BindsTo.of_eq (binds := [(_, _), (_, _), (_, _), (_, _), (_, _)]) rfl | exact BindsTo.of_eq (binds := [(_, _), (_, _), (_, _), (_, _), (_, _), (_, _)]) rfl | exact BindsTo.of_eq (binds := [(_, _), (_, _), (_, _), (_, _), (_, _), (_, _), (_, _)]) rfl | exact BindsTo.of_eq (binds := [(_, _), (_, _), (_, _), (_, _), (_, _), (_, _), (_, _), (_, _)]) rfl | exact BindsTo.of_eq (binds := [(_, _), (_, _), (_, _), (_, _), (_, _), (_, _), (_, _), (_, _), (_, _)]) rfl | exact BindsTo.of_eq (binds := [(_, _), (_, _), (_, _), (_, _), (_, _), (_, _), (_, _), (_, _), (_, _), (_, _)]) rfl | exact binds_K (by k_in) rfl (by k_is) rfl rfl rfl); (case zz247xkB => exact rfl); (case zz247xkD => decide +kernel); (case zz247xc2 => exact rfl); (case zz247xc3 => exact rfl); (case zz247xc4 => exact rfl); k_whole; intro g' L' h' tk' cells' FG' F' N' Y' B' X' T' l1; k_cells Y'; (try simp only [List.cons_append, List.nil_append] at N'); (try dsimp only); (try k_fold)))
  k_with "call ref" => (k_here; k_dflt (refine' mk_inst ?zz229xk1 ?zz229xk2 ?zz229xk3 ?zz229xk4 ?zz229xk5 ?zz229xk6 ?_; (case zz229xk1 => k_asm); (case zz229xk2 => k_asm); (case zz229xk3 => k_asm); (case zz229xk4 => k_is); (case zz229xk5 => k_is); (case zz229xk6 => k_is); k_whole; intro x' d' o' h' F' N' a' l1 l2; (have nd' := nd_cons2 l1 l2 (by assumption)); (try k_sweep); (k_extra "ENTER")))
  k_with "setAttr ref" => (k_here; k_dflt (refine' at_set ?zz230xk1 ?zz230xk2 ?zz230xk3 ?zz230xk4 ?zz230xk5 ?zz230xk6 ?zz230xk7 ?zz230xk8 ?zz230xk9 ?zz230xk10 ?zz230xk11 ?_; (case zz230xk1 => k_asm); (case zz230xk2 => k_asm); (case zz230xk3 => k_asm); (case zz230xk4 => k_mem); (case zz230xk5 => k_updF); (case zz230xk6 => assumption); (case zz230xk7 => k_is); (case zz230xk8 => k_is); (case zz230xk9 => k_is); (case zz230xk10 => k_is); (case zz230xk11 => exact Nat.le_of_ble_eq_true rfl); k_whole; intro h' o' F' N' a'; (try dsimp only at N' a' F'); (try k_sweep)))
  k_with "setAttr ref" => (k_here; k_dflt (refine' at_again ?zz231xk1 ?zz231xk2 ?zz231xk3 ?zz231xk4 ?zz231xk5 ?zz231xk6 ?zz231xk0 ?zz231xk7 ?zz231xk8 ?zz231xk9 ?zz231xk10 ?zz231xk11 ?_; (case zz231xk1 => k_asm); (case zz231xk2 => k_asm); (case zz231xk3 => k_asm); (case zz231xk4 => k_mem); (case zz231xk5 => k_updF); (case zz231xk6 => assumption); (case zz231xk0 => first | exact rfl | assumption); (case zz231xk7 => k_is); (case zz231xk8 => k_is); (case zz231xk9 => k_is); (case zz231xk10 => k_is); (case zz231xk11 => exact Nat.le_of_ble_eq_true rfl); k_whole; intro h' o' F' N' a'; (try dsimp only at N' a' F'); (try k_sweep)))
  k_with "getAttr ref" => (k_here; k_dflt (refine' at_get ?zz232xk1 ?zz232xk2 ?zz232xk3 ?zz232xk4 ?zz232xk5 ?zz232xk6 ?zz232xk7 ?zz232xk8 ?zz232xk9 ?zz232xk10 ?zz232xk11 ?zz232xk12 ?_; (case zz232xk1 => k_asm); (case zz232xk2 => k_asm); (case zz232xk3 => k_asm); (case zz232xk4 => k_mem); (case zz232xk5 => k_mem); (case zz232xk6 => assumption); (case zz232xk7 => first | exact rfl | assumption); (case zz232xk8 => k_is); (case zz232xk9 => k_is); (case zz232xk10 => k_is); (case zz232xk11 => k_is); (case zz232xk12 => k_handed); k_whole))
  k_with "call type:list" => (k_here; (with_reducible show wpAny _ _ (call (Value.type _) [Value.ref _]) _ _ _); (with_unfolding_all refine' list_copyK ?zz233xk1 ?zz233xk2 ?zz233xk3 ?_ ?zz233xz; (case zz233xk1 => k_asm); (case zz233xk2 => k_asm); (case zz233xk3 => exact News.isList (d := none) (sl := #[]) (by k_asm) (by k_mem)); (case zz233xz => size_fits); k_whole); intro D' c' h' F' N' l1; (have nd' := nd_cons l1 (by assumption)); (try k_sweep))
  k_with "compareOp Eq ref ref" => (k_here; (with_reducible show wpAny _ _ (compareOp CmpOp.Eq (Value.ref _) (Value.ref _)) _ _ _); k_dflt (refine' ke_eq_ints (xs := []) (ys := []) ?zz234xa ?zz234xb .nil .nil ?zz234xu ?_; (case zz234xa => exact News.isList (d := none) (sl := #[]) (items := #[]) (by k_asm) (by k_mem)); (case zz234xb => exact News.isList (d := none) (sl := #[]) (items := #[]) (by k_asm) (by k_mem)); (case zz234xu => ktr_units); k_whole))
  k_with "getMethod ref" => (k_here; k_dflt (first | ((with_reducible show wpAny _ _ (getMethod (Value.ref _) (Str.ofString "get") _) _ _ _); refine' dic_method (knd := PySem.strKind _ _) PySem.F.slot_dict_get PySem.F.type_dict_get ?zz235xa ?zz235xb ?zz235xc ?_; (case zz235xa => k_asm); (case zz235xb => k_mem); (case zz235xc => assumption); k_whole) | ((with_reducible show wpAny _ _ (getMethod (Value.ref _) (Str.ofString "get") _) _ _ _); refine' dic_method (knd := PySem.intKind _ _) PySem.F.slot_dict_get PySem.F.type_dict_get ?zz235xa ?zz235xb ?zz235xc ?_; (case zz235xa => k_asm); (case zz235xb => k_mem); (case zz235xc => assumption); k_whole) | ((with_reducible show wpAny _ _ (getMethod (Value.ref _) (Str.ofString "setdefault") _) _ _ _); refine' dic_method (knd := PySem.strKind _ _) PySem.F.slot_dict_setdefault PySem.F.type_dict_setdefault ?zz235xa ?zz235xb ?zz235xc ?_; (case zz235xa => k_asm); (case zz235xb => k_mem); (case zz235xc => assumption); k_whole) | ((with_reducible show wpAny _ _ (getMethod (Value.ref _) (Str.ofString "setdefault") _) _ _ _); refine' dic_method (knd := PySem.intKind _ _) PySem.F.slot_dict_setdefault PySem.F.type_dict_setdefault ?zz235xa ?zz235xb ?zz235xc ?_; (case zz235xa => k_asm); (case zz235xb => k_mem); (case zz235xc => assumption); k_whole)))
  k_with "call builtin:dict.get" => (k_here; k_dflt (first
  | (refine' dic_get2 (knd := PySem.strKind _ _) ?zz236xa ?zz236xb ?zz236xc ?zz236xd (strKind_is _ _ _ _) ?_; (case zz236xa => k_asm); (case zz236xb => k_mem); (case zz236xc => assumption); (case zz236xd => assumption); k_whole)
  | (refine' dic_get1 (knd := PySem.intKind _ _) ?zz236xa ?zz236xb ?zz236xc ?zz236xd (intKind_is _ _ _ _) ?_; (case zz236xa => k_asm); (case zz236xb => k_mem); (case zz236xc => assumption); (case zz236xd => assumption); k_whole)); (try simp only [Option.getD_none, Option.getD_some, *]))
  k_with "call builtin:dict.setdefault" => (k_here; k_dflt (first
  | (refine' dic_default (knd := PySem.strKind _ _) ?zz237xa ?zz237xb ?zz237xc ?zz237xd ?zz237xe (strKind_is _ _ _ _) ?zz237xf ?zz237xg ?_; (case zz237xa => k_asm); (case zz237xb => k_asm); (case zz237xc => k_updF); (case zz237xd => assumption); (case zz237xe => assumption); (case zz237xf => omega); (case zz237xg => assumption); k_whole)
  | (refine' dic_default (knd := PySem.intKind _ _) ?zz237xa ?zz237xb ?zz237xc ?zz237xd ?zz237xe (intKind_is _ _ _ _) ?zz237xf ?zz237xg ?_; (case zz237xa => k_asm); (case zz237xb => k_asm); (case zz237xc => k_updF); (case zz237xd => assumption); (case zz237xe => assumption); (case zz237xf => omega); (case zz237xg => assumption); k_whole)); intro h' o' F' N' dc'; (try dsimp only at N' dc' F'); (try k_sweep))
  k_with "setItem ref str" => (k_here; k_dflt (refine' dic_set (knd := PySem.strKind _ _) ?zz238xa ?zz238xb ?zz238xc ?zz238xd (strKind_is _ _ _ _) ?zz238xf ?_; (case zz238xa => k_asm); (case zz238xb => k_asm); (case zz238xc => k_updF); (case zz238xd => assumption); (case zz238xf => omega); k_whole); intro h' o' F' N' dc'; (try dsimp only at N' dc' F'); (try k_sweep))
  k_with "newTuple" => (k_here; k_dflt (refine' kup_newTuple ?zz239xF ?zz239xN ?_ ?zz239xz; (case zz239xF => k_asm); (case zz239xN => k_asm); (case zz239xz => kmk_size)); intro D' h' F' N' l1; (try (k_dflt (have nd' := nd_cons l1 (by assumption)))); (try clear l1); (try k_sweep))
  k_with "newList" => (k_here; k_dflt (refine' newList_K ?zz240xk1 ?zz240xk2 ?_; (case zz240xk1 => k_asm); (case zz240xk2 => k_asm); k_whole); intro l' h' F' N' l1; (try (k_dflt (have nd' := nd_cons l1 (by assumption)))); (try clear l1); (try k_sweep))
  k_with "eval Dict" => (k_here; kdn_look; k_dflt (refine' kdn_str ?zz241xq ?zz241xF ?zz241xN ?zz241xb ?zz241xa ?zz241xl ?zz241xe ?zz241xn ?_; (case zz241xq => rfl); (case zz241xF => k_asm); (case zz241xN => k_asm); (case zz241xb => exact Top.nolimit (by k_asm)); (case zz241xa => rfl); (case zz241xl => rfl); (case zz241xe => exact List.cons_ne_nil _ _); (case zz241xn => exact Nat.le_of_ble_eq_true rfl)); intro d' h' o' F' N' l1 lo' hd'; (try (k_dflt (have nd' := nd_cons l1 (by assumption)))); clear l1)
  k_with "eval Dict nil nil" => (k_here; k_dflt (refine' newDict_K ?zz242xk1 ?zz242xk2 (TopRead.nolimit (by k_asm)) ?_; (case zz242xk1 => k_asm); (case zz242xk2 => k_asm); k_whole); intro d' h' o' F' N' l1 lo' hs' fs' hi' fi'; (try (k_dflt (have nd' := nd_cons l1 (by assumption)))); clear l1; (try k_sweep))
  k_with "eval Name" => (k_here; (with_reducible show wpAny _ _ (eval (Expr.Name _ _) (compEnvC _ _ _ _)) _ _ _); k_dflt (first | (refine' ldVarK (Fr.ns ?zz243xF) ?zz243xhv ?_; (case zz243xF => k_asm); (case zz243xhv => assumption)) | (refine kcf_cell (by k_asm) (by rfl) (by k_mem) (by k_asm) ?_)))
  k_with "eval ListComp" => (k_here; k_dflt (refine' compQ ?zz244xF0 ?zz244xhh ?zz244xa ?zz244xb ?zz244xc ?zz244xd ?zz244xe ?_ ?zz244xf; (case zz244xF0 => k_asm); (case zz244xhh => exact rfl); (case zz244xa => exact rfl); (case zz244xb => decide); (case zz244xc => exact rfl); (case zz244xd => decide); (case zz244xe => exact rfl); (case zz244xf => intro _; exact rfl); k_whole))
  k_with "call builtin:sorted" => (k_here; k_dflt (refine' kdu_sortedD (knd := PySem.strKind _ _) (enc := PyData.str) (fun _ _ => kdl_flat_str) ?zz245xhh ?zz245xF ?zz245xN ?zz245xT ?zz245xu ?_; (case zz245xhh => exact rfl); (case zz245xF => k_asm); (case zz245xN => k_asm); (case zz245xT => exact TabAt.ofNews (by k_asm) (by k_mem) (by k_asm) (by k_asm) (by k_asm)); (case zz245xu => k_units)); intro D' h' tk'; kdl_open)
  k_with "call builtin:list.sort" => (k_here; k_dflt (refine' sort_one ?zz246xF ?zz246xN ?zz246xU ?_; (case zz246xF => k_asm); (case zz246xN => k_asm); (case zz246xU => k_updF)); intro c' h' F' N'; (try dsimp only at N' F'))
  trivial



theorem keys2 {w : World} {mean : ExcName → Option Value} {mg mb : Str → Option Value}
    {dp un : Nat} {gd : Option (List Code)} {cn : Str} {cs : Scope} {a : Addr} {ccd : Value} {cl : List (Str × Addr)} {outer : List Env} {A₀ : Around} {base h₀ : Heap} {L : Addr} {m : Str → Option Value} {news : List (Addr × Obj)} {s : Shared}
    {Q E : Value → Shared → Prop} {t dt od : Addr} {ot oo : Obj} {k : Nat} {mt : Str → Option Value} {ta1 : Tok} (ht : (t, instObj 271 dt) ∈ news) (hdt : (dt, ot) ∈ news) (at1 : Attrs k ot mt) (at2 : mt (Str.ofString "operations") = some (.ref od))
    (hod : (od, oo) ∈ news) (doo : oo.IsDictOf (strKind PySem.Challenge.rw_rg0009_01.row.prog w) [(Str.ofString "f inself", .str (Str.ofString "") ta1)]) (dfl : PyProof.V.FlatPairs PyData.str [(Str.ofString "f inself", .str (Str.ofString "") ta1)] [(.str (Str.ofString "f inself"), .str (Str.ofString ""))]) (lod : (od == sysModules) = false)
    (B : Below A₀ base outer h₀) (F : Fr h₀ L s.heap m) (KX : (Mine.K w.params).In h₀) (T : Top Mine.q0 (looseW Mine.q0 [Str.ofString "Limits"]) mean mg mb h₀) (hk : cs.kind = .function) (N : News h₀ L s.heap news) (hd : dp + 10 < recursionLimit) (hu : un + 500 < cLine)
    (hret : ∀ D0 c its h' tks, (∃ t, its = [Value.str (Str.ofString "f inself") t]) → Fr h₀ L h' m → News h₀ L h' ((D0, PySem.W.listOf (List.toArray its) c) :: news) → Q (.ref D0) { s with heap := h', toks := tks }) :
    wpAny (model PySem.Challenge.rw_rg0009_01.row.prog w) (ktrTop dp un gd cn cs L a ccd cl outer) (call (.ref 183) [.ref t]) Q E s := by
  (try w_top off); revert KX; k_fill; intro KX
  refine wpAny_call ?_
  (k_extra "ENTER")
  k_steps
  all_goals (refine CompQ.hold (rv := Str.ofString "f inself") (by k_asm) (by k_asm) (Src1.list1 (by k_mem)) ?_ ?_ ?_)
  · intro C s₃ m₃ tk E' F₃ N₃ hx
    k_steps
    all_goals (first | exact ⟨_, _, rfl, fun _ _ e => e⟩ | exact ⟨rfl, _, _, rfl, fun _ _ e => e⟩ | exact ⟨⟨_, rfl⟩, _, _, rfl, fun _ _ e => e⟩ | exact ⟨_, rfl⟩)
  · intro C s₃ m₃ tk E' F₃ N₃ hx
    k_steps
    all_goals (first | exact ⟨_, _, rfl, fun _ _ e => e⟩ | exact ⟨rfl, _, _, rfl, fun _ _ e => e⟩ | exact ⟨⟨_, rfl⟩, _, _, rfl, fun _ _ e => e⟩ | exact ⟨_, rfl⟩)
  · (intro D0 c its h' tk hits F' N' hne; k_steps; all_goals exact hret _ _ _ _ _ hits (by k_asm) (by ktr_rel))

end Mine
end
section
open PySem PySem.W PyProof.Rows
namespace Mine
theorem ln18 : True := by
  k_with_none
  k_with "ENTER" => (first | (refine' code_def ?zz260xk1 ?zz260xk2 ?zz260xk3 ?zz260xk4 ?zz260xk5 ?zz260xkA ?zz260xkF ?zz260xkK ?zz260xk6 ?zz260xk7 ?zz260xk8 ?zz260xk9 ?zz260xkB ?_ ?zz260xc2 ?zz260xc3 ?zz260xc4 ?zz260xc5; (case zz260xkA => exact rfl); (case zz260xkF => exact rfl); (case zz260xkK => first | exact rfl | assumption); (case zz260xk1 => k_asm); (case zz260xk2 => k_asm); (case zz260xk3 => k_asm); (case zz260xk4 => k_asm); (case zz260xk5 => k_asm); (case zz260xk6 => k_is); (case zz260xk7 => k_is); (case zz260xk8 => ktr_room); (case zz260xk9 => first | exact BindsTo.of_eq (binds := []) rfl | exact BindsTo.of_eq (binds := [(_, _)]) rfl | exact BindsTo.of_eq (binds := [(_, _), (_, _)]) rfl | exact BindsTo.of_eq (binds := [(_, _), (_, _), (_, _)]) rfl | exact BindsTo.of_eq (binds := [(_, _), (_, _), (_, _), (_, _)]) rfl | exact BindsTo.of_eq (binds := [(_, _), (_, _), (_, _), (_, _), (_, _)]) rfl | exact BindsTo.of_eq (binds := [(_, _), (_, _), (_, _), (_, _), (_, _), (_, _)]) rfl | exact BindsTo.of_eq (binds := [(_, _), (_, _), (_, _), (_, _), (_, _), (_, _), (_, _)]) rfl | exact BindsTo.of_eq (binds := [(_, _), (_, _), (_, _), (_, _), (_, _), (_, _), (_, _), (_, _)]) rfl | exact BindsTo.of_eq (binds := [(_, _), (_, _), (_, _), (_, _), (_, _), (_, _), (_, _), (_, _), (_, _)]) rfl | exact BindsTo.of_eq (binds := [(_, _), (_, _), (_, _), (_, _), (_, _), (_, _), (_, _), (_, _), (_, _), (_, _)]) rfl | exact binds_K (by k_in) rfl (by k_is) rfl rfl rfl); (case zz260xc5 => decide); (case zz260xkB => exact locs rfl); (case zz260xc2 => exact rfl); (case zz260xc3 => exact rfl); (case zz260xc4 => exact rfl); k_whole; intro g' L' h' FG' F' N' B' X' T'; (try dsimp only); (try k_fold)) | (refine' code_defC ?zz260xk1 ?zz260xk2 ?zz260xk3 ?zz260xk4 ?zz260xk5 ?zz260xkA ?zz260xkF ?zz260xkK ?zz260xk6 ?zz260xk7 ?zz260xk8 ?zz260xk9 ?zz260xkB ?zz260xkD ?_ ?zz260xc2 ?zz260xc3 ?zz260xc4; (case zz260xkA => exact rfl); (case zz260xkF => exact rfl); (case zz260xkK => first | exact rfl | assumption); (case zz260xk1 => k_asm); (case zz260xk2 => k_asm); (case zz260xk3 => k_asm); (case zz260xk4 => k_asm); (case zz260xk5 => k_asm); (case zz260xk6 => k_is); (case zz260xk7 => k_is); (case zz260xk8 => ktr_room); (case zz260xk9 => first | exact BindsTo.of_eq (binds := []) rfl | exact BindsTo.of_eq (binds := [(_, _)]) rfl | exact BindsTo.of_eq (binds := [(_, _), (_, _)]) rfl | exact BindsTo.of_eq (binds := [(_, _), (_, _), (_, _)]) rfl | exact BindsTo.of_eq (binds := [(_, _), (_, _), (_, _), (_, _)]) rfl | exact BindsTo.of_eq (binds := [(_, _), (_, _), (_, _), (_, _), (_, _)]) rfl | exact BindsTo.of_eq (binds := [(_, _), (_, _), (_, _), (_, _), (_, _), (_, _)]) rfl | exact BindsTo.of_eq (binds := [(_, _), (_, _), (_, _), (_, _), (_, _), (_, _), (_, _)]) rfl | exact BindsTo.of_eq (binds := [(_, _), (_, _), (_, _), (_, _), (_, _), (_, _), (_, _), (_, _)]) rfl | exact BindsTo.of_eq (binds := [(_, _), (_, _), (_, _), (_, _), (_, _), (_, _), (_, _), (_, _), (_, _)]) rfl | exact BindsTo.of_eq (binds := [(_, _), (_, _), (_, _), (_, _), (_, _), (_, _), (_, _), (_, _), (_, _), (_, _)]) rfl | exact binds_K (by k_in) rfl (by k_is) rfl rfl rfl); (case zz260xkB => exact rfl); (case zz260xkD => decide +kernel); (case zz260xc2 => exact rfl); (case zz260xc3 => exact rfl); (case zz260xc4 => exact rfl); k_whole; intro g' L' h' tk' cells' FG' F' N' Y' B' X' T' l1; k_cells Y'; (try simp only [List.cons_append, List.nil_append] at N'); (try dsimp only); (try k_fold)))
  k_with "call ref" => (k_here; k_dflt (refine' mk_inst ?zz248xk1 ?zz248xk2 ?zz248xk3 ?zz248xk4 ?zz248xk5 ?zz248xk6 ?_; (case zz248xk1 => k_asm); (case zz248xk2 => k_asm); (case zz248xk3 => k_asm); (case zz248xk4 => k_is); (case zz248xk5 => k_is); (case zz248xk6 => k_is); k_whole; intro x' d' o' h' F' N' a' l1 l2; (have nd' := nd_cons2 l1 l2 (by assumption)); (try k_sweep); (k_extra "ENTER")))
  k_with "setAttr ref" => (k_here; k_dflt (refine' at_set ?zz249xk1 ?zz249xk2 ?zz249xk3 ?zz249xk4 ?zz249xk5 ?zz249xk6 ?zz249xk7 ?zz249xk8 ?zz249xk9 ?zz249xk10 ?zz249xk11 ?_; (case zz249xk1 => k_asm); (case zz249xk2 => k_asm); (case zz249xk3 => k_asm); (case zz249xk4 => k_mem); (case zz249xk5 => k_updF); (case zz249xk6 => assumption); (case zz249xk7 => k_is); (case zz249xk8 => k_is); (case zz249xk9 => k_is); (case zz249xk10 => k_is); (case zz249xk11 => exact Nat.le_of_ble_eq_true rfl); k_whole; intro h' o' F' N' a'; (try dsimp only at N' a' F'); (try k_sweep)))
  k_with "setAttr ref" => (k_here; k_dflt (refine' at_again ?zz250xk1 ?zz250xk2 ?zz250xk3 ?zz250xk4 ?zz250xk5 ?zz250xk6 ?zz250xk0 ?zz250xk7 ?zz250xk8 ?zz250xk9 ?zz250xk10 ?zz250xk11 ?_; (case zz250xk1 => k_asm); (case zz250xk2 => k_asm); (case zz250xk3 => k_asm); (case zz250xk4 => k_mem); (case zz250xk5 => k_updF); (case zz250xk6 => assumption); (case zz250xk0 => first | exact rfl | assumption); (case zz250xk7 => k_is); (case zz250xk8 => k_is); (case zz250xk9 => k_is); (case zz250xk10 => k_is); (case zz250xk11 => exact Nat.le_of_ble_eq_true rfl); k_whole; intro h' o' F' N' a'; (try dsimp only at N' a' F'); (try k_sweep)))
  k_with "getAttr ref" => (k_here; k_dflt (refine' at_get ?zz251xk1 ?zz251xk2 ?zz251xk3 ?zz251xk4 ?zz251xk5 ?zz251xk6 ?zz251xk7 ?zz251xk8 ?zz251xk9 ?zz251xk10 ?zz251xk11 ?zz251xk12 ?_; (case zz251xk1 => k_asm); (case zz251xk2 => k_asm); (case zz251xk3 => k_asm); (case zz251xk4 => k_mem); (case zz251xk5 => k_mem); (case zz251xk6 => assumption); (case zz251xk7 => first | exact rfl | assumption); (case zz251xk8 => k_is); (case zz251xk9 => k_is); (case zz251xk10 => k_is); (case zz251xk11 => k_is); (case zz251xk12 => k_handed); k_whole))
  k_with "call type:list" => (k_here; (with_reducible show wpAny _ _ (call (Value.type _) [Value.ref _]) _ _ _); (with_unfolding_all refine' list_copyK ?zz252xk1 ?zz252xk2 ?zz252xk3 ?_ ?zz252xz; (case zz252xk1 => k_asm); (case zz252xk2 => k_asm); (case zz252xk3 => exact News.isList (d := none) (sl := #[]) (by k_asm) (by k_mem)); (case zz252xz => size_fits); k_whole); intro D' c' h' F' N' l1; (have nd' := nd_cons l1 (by assumption)); (try k_sweep))
  k_with "compareOp Eq ref ref" => (k_here; (with_reducible show wpAny _ _ (compareOp CmpOp.Eq (Value.ref _) (Value.ref _)) _ _ _); k_dflt (refine' ke_eq_ints (xs := []) (ys := []) ?zz253xa ?zz253xb .nil .nil ?zz253xu ?_; (case zz253xa => exact News.isList (d := none) (sl := #[]) (items := #[]) (by k_asm) (by k_mem)); (case zz253xb => exact News.isList (d := none) (sl := #[]) (items := #[]) (by k_asm) (by k_mem)); (case zz253xu => ktr_units); k_whole))
  k_with "call ref" => (k_here; k_dflt (refine' exc_mk PySem.F.excBase_Exception ?zz254xk1 ?zz254xk2 ?zz254xk3 ?zz254xk4 ?zz254xk5 ?zz254xk6 ?zz254xk7 ?zz254xk8 ?_; (case zz254xk1 => k_asm); (case zz254xk2 => k_asm); (case zz254xk3 => k_asm); (case zz254xk4 => k_is); (case zz254xk5 => exact ⟨by decide, by decide, by decide, by decide⟩); (case zz254xk6 => k_is); (case zz254xk7 => k_is); (case zz254xk8 => exact Nat.le_of_ble_eq_true rfl); k_whole; intro x' t' h' F' N' l1 l2; (have nd' := nd_cons2 l1 l2 (by assumption)); (try k_sweep); (k_extra "ENTER")))
  k_with "setAttr ref" => (k_here; k_dflt (refine' exc_set0 ?zz255xk1 ?zz255xk2 ?zz255xk3 ?zz255xk4 ?zz255xk5 (excCls_of ?zz255xk6 ?zz255xk61) ?zz255xk7 ?_; (case zz255xk1 => k_asm); (case zz255xk2 => k_asm); (case zz255xk3 => k_asm); (case zz255xk4 => k_updF); (case zz255xk5 => k_is); (case zz255xk6 => k_is); (case zz255xk61 => exact rfl); (case zz255xk7 => k_is); k_whole; intro h' d' o' tk' F' N' a' l1; (have nd' := nd_cons l1 (by assumption)); (try dsimp only at N' F' a'); (try k_sweep)))
  k_with "setAttr ref" => (k_here; k_dflt (refine' exc_set1 ?zz256xk1 ?zz256xk2 ?zz256xk3 ?zz256xk4 ?zz256xk5 ?zz256xk6 ?zz256xk7 ?zz256xk8 (excCls_of ?zz256xk9 ?zz256xk91) ?zz256xk10 ?_; (case zz256xk1 => k_asm); (case zz256xk2 => k_asm); (case zz256xk3 => k_asm); (case zz256xk4 => k_mem); (case zz256xk5 => k_updF); (case zz256xk6 => assumption); (case zz256xk7 => decide); (case zz256xk8 => k_is); (case zz256xk9 => k_is); (case zz256xk91 => exact rfl); (case zz256xk10 => k_is); k_whole; intro h' o' tk' F' N' a'; (try dsimp only at N' F' a'); (try k_sweep)))
  k_with "call ref" => (k_here; (with_reducible show wpAny _ _ (call (Value.ref 28) _ _) _ _ _); k_dflt (refine wpAny_call ?_; (k_extra "ENTER")))
  k_with "getMethod type:Exception" => (k_here; k_dflt (refine' method_type ?zz258xF ?zz258xX ?zz258xm (by decide +kernel) ?zz258xe ?zz258xh ?_; (case zz258xF => k_asm); (case zz258xX => k_asm); (case zz258xm => exact exc_type_meta); (case zz258xe => k_dflt k_is); (case zz258xh => k_handed)))
  k_with "call builtin:Exception.__init__" => (k_here; k_dflt (refine' exc_init PySem.F.excBase_Exception ?zz259xk1 ?zz259xk2 ?zz259xk3 ?zz259xk4 ?zz259xk5 ?zz259xk6 ?_; (case zz259xk1 => k_asm); (case zz259xk2 => k_asm); (case zz259xk3 => k_asm); (case zz259xk4 => k_updF); (case zz259xk5 => k_is); (case zz259xk6 => exact ⟨by decide, by decide, by decide, by decide⟩); k_whole; intro t' h' F' N' l1; (have nd' := nd_cons l1 (by assumption)); (try dsimp only at N' F'); (try k_sweep)))
  trivial



theorem fault_c {w : World} {mean : ExcName → Option Value} {mg mb : Str → Option Value}
    {dp un : Nat} {gd : Option (List Code)} {cn : Str} {cs : Scope} {a : Addr} {ccd : Value} {cl : List (Str × Addr)} {outer : List Env} {A₀ : Around} {base h₀ : Heap} {L : Addr} {m : Str → Option Value} {news : List (Addr × Obj)} {s : Shared}
    {Q E : Value → Shared → Prop} {ln : Int} {x : Str} {tl tx : Tok}
    (B : Below A₀ base outer h₀) (F : Fr h₀ L s.heap m) (KX : (Mine.K w.params).In h₀) (T : Top Mine.q0 (looseW Mine.q0 [Str.ofString "Limits"]) mean mg mb h₀) (hk : cs.kind = .function) (N : News h₀ L s.heap news) (nd : (news.map Prod.fst).Nodup) (hd : dp + 20 < recursionLimit) (hu : un + 600 < cLine)
    (hret : ∀ e d od vs a0 h' tks, Fr h₀ L h' m → News h₀ L h' ((e, { cls := .ref 51, dict := some d, data := .fields vs }) :: (d, od) :: news) → vs[0]? = some a0 → vs[1]? = some .none → Q (.ref e) { s with heap := h', toks := tks }) :
    wpAny (model PySem.Challenge.rw_rg0009_01.row.prog w) (ktrTop dp un gd cn cs L a ccd cl outer) (call (.ref 51) [.int ln tl, .str x tx]) Q E s := by
  (try w_top off); revert KX; k_fill; intro KX
  k_steps
  all_goals exact hret _ _ _ _ _ _ _ (by k_asm) (by ktr_rel) rfl rfl

end Mine
end
section
open PySem PySem.W PyProof.Rows
namespace Mine
theorem ln19 : True := by
  k_with_none
  k_with "ENTER" => (first | (refine' code_def ?zz272xk1 ?zz272xk2 ?zz272xk3 ?zz272xk4 ?zz272xk5 ?zz272xkA ?zz272xkF ?zz272xkK ?zz272xk6 ?zz272xk7 ?zz272xk8 ?zz272xk9 ?zz272xkB ?_ ?zz272xc2 ?zz272xc3 ?zz272xc4 ?zz272xc5; (case zz272xkA => exact rfl); (case zz272xkF => exact rfl); (case zz272xkK => first | exact rfl | assumption); (case zz272xk1 => k_asm); (case zz272xk2 => k_asm); (case zz272xk3 => k_asm); (case zz272xk4 => k_asm); (case zz272xk5 => k_asm); (case zz272xk6 => k_is); (case zz272xk7 => k_is); (case zz272xk8 => ktr_room); (case zz272xk9 => first | exact BindsTo.of_eq (binds := []) rfl | exact BindsTo.of_eq (binds := [(_, _)]) rfl | exact BindsTo.of_eq (binds := [(_, _), (_, _)]) rfl | exact BindsTo.of_eq (binds := [(_, _), (_, _), (_, _)]) rfl | exact BindsTo.of_eq (binds := [(_, _), (_, _), (_, _), (_, _)]) rfl | exact BindsTo.of_eq (binds := [(_, _), (_, _), (_, _), (_, _), (_, _)]) rfl | exact BindsTo.of_eq (binds := [(_, _), (_, _), (_, _), (_, _), (_, _), (_, _)]) rfl | exact BindsTo.of_eq (binds := [(_, _), (_, _), (_, _), (_, _), (_, _), (_, _), (_, _)]) rfl | exact BindsTo.of_eq (binds := [(_, _), (_, _), (_, _), (_, _), (_, _), (_, _), (_, _), (_, _)]) rfl | exact BindsTo.of_eq (binds := [(_, _), (_, _), (_, _), (_, _), (_, _), (_, _), (_, _), (_, _), (_, _)]) rfl | exact BindsTo.of_eq (binds := [(_, _), (_, _), (_, _), (_, _), (_, _), (_, _), (_, _), (_, _), (_, _), (_, _)]) rfl | exact binds_K (by k_in) rfl (by k_is) rfl rfl rfl); (case zz272xc5 => decide); (case zz272xkB => exact locs rfl); (case zz272xc2 => exact rfl); (case zz272xc3 => exact rfl); (case zz272xc4 => exact rfl); k_whole; intro g' L' h' FG' F' N' B' X' T'; (try dsimp only); (try k_fold)) | (refine' code_defC ?zz272xk1 ?zz272xk2 ?zz272xk3 ?zz272xk4 ?zz272xk5 ?zz272xkA ?zz272xkF ?zz272xkK ?zz272xk6 ?zz272xk7 ?zz272xk8 ?zz272xk9 ?zz272xkB ?zz272xkD ?_ ?zz272xc2 ?zz272xc3 ?zz272xc4; (case zz272xkA => exact rfl); (case zz272xkF => exact rfl); (case zz272xkK => first | exact rfl | assumption); (case zz272xk1 => k_asm); (case zz272xk2 => k_asm); (case zz272xk3 => k_asm); (case zz272xk4 => k_asm); (case zz272xk5 => k_asm); (case zz272xk6 => k_is); (case zz272xk7 => k_is); (case zz272xk8 => ktr_room); (case zz272xk9 => first | exact BindsTo.of_eq (binds := []) rfl | exact BindsTo.of_eq (binds := [(_, _)]) rfl | exact BindsTo.of_eq (binds := [(_, _), (_, _)]) rfl | exact BindsTo.of_eq (binds := [(_, _), (_, _), (_, _)]) rfl | exact BindsTo.of_eq (binds := [(_, _), (_, _), (_, _), (_, _)]) rfl | exact BindsTo.of_eq (binds := [(_, _), (_, _), (_, _), (_, _), (_, _)]) rfl | exact BindsTo.of_eq (binds := [(_, _), (_, _), (_, _), (_, _), (_, _), (_, _)]) rfl | exact BindsTo.of_eq (binds := [(_, _), (_, _), (_, _), (_, _), (_, _), (_, _), (_, _)]) rfl | exact BindsTo.of_eq (binds := [(_, _), (_, _), (_, _), (_, _), (_, _), (_, _), (_, _), (_, _)]) rfl | exact BindsTo.of_eq (binds := [(_, _), (_, _), (_, _), (_, _), (_, _), (_, _), (_, _), (_, _), (_, _)]) rfl | exact BindsTo.of_eq (binds := [(_, _), (_, _), (_, _), (_, _), (_, _), (_, _), (_, _), (_, _), (_, _), (_, _)]) rfl | exact binds_K (by k_in) rfl (by k_is) rfl rfl rfl); (case zz272xkB => exact rfl); (case zz272xkD => decide +kernel); (case zz272xc2 => exact rfl); (case zz272xc3 => exact rfl); (case zz272xc4 => exact rfl); k_whole; intro g' L' h' tk' cells' FG' F' N' Y' B' X' T' l1; k_cells Y'; (try simp only [List.cons_append, List.nil_append] at N'); (try dsimp only); (try k_fold)))
  k_with "call ref" => (k_here; k_dflt (refine' mk_inst ?zz261xk1 ?zz261xk2 ?zz261xk3 ?zz261xk4 ?zz261xk5 ?zz261xk6 ?_; (case zz261xk1 => k_asm); (case zz261xk2 => k_asm); (case zz261xk3 => k_asm); (case zz261xk4 => k_is); (case zz261xk5 => k_is); (case zz261xk6 => k_is); k_whole; intro x' d' o' h' F' N' a' l1 l2; (have nd' := nd_cons2 l1 l2 (by assumption)); (try k_sweep); (k_extra "ENTER")))
  k_with "setAttr ref" => (k_here; k_dflt (refine' at_set ?zz262xk1 ?zz262xk2 ?zz262xk3 ?zz262xk4 ?zz262xk5 ?zz262xk6 ?zz262xk7 ?zz262xk8 ?zz262xk9 ?zz262xk10 ?zz262xk11 ?_; (case zz262xk1 => k_asm); (case zz262xk2 => k_asm); (case zz262xk3 => k_asm); (case zz262xk4 => k_mem); (case zz262xk5 => k_updF); (case zz262xk6 => assumption); (case zz262xk7 => k_is); (case zz262xk8 => k_is); (case zz262xk9 => k_is); (case zz262xk10 => k_is); (case zz262xk11 => exact Nat.le_of_ble_eq_true rfl); k_whole; intro h' o' F' N' a'; (try dsimp only at N' a' F'); (try k_sweep)))
  k_with "setAttr ref" => (k_here; k_dflt (refine' at_again ?zz263xk1 ?zz263xk2 ?zz263xk3 ?zz263xk4 ?zz263xk5 ?zz263xk6 ?zz263xk0 ?zz263xk7 ?zz263xk8 ?zz263xk9 ?zz263xk10 ?zz263xk11 ?_; (case zz263xk1 => k_asm); (case zz263xk2 => k_asm); (case zz263xk3 => k_asm); (case zz263xk4 => k_mem); (case zz263xk5 => k_updF); (case zz263xk6 => assumption); (case zz263xk0 => first | exact rfl | assumption); (case zz263xk7 => k_is); (case zz263xk8 => k_is); (case zz263xk9 => k_is); (case zz263xk10 => k_is); (case zz263xk11 => exact Nat.le_of_ble_eq_true rfl); k_whole; intro h' o' F' N' a'; (try dsimp only at N' a' F'); (try k_sweep)))
  k_with "getAttr ref" => (k_here; k_dflt (refine' at_get ?zz264xk1 ?zz264xk2 ?zz264xk3 ?zz264xk4 ?zz264xk5 ?zz264xk6 ?zz264xk7 ?zz264xk8 ?zz264xk9 ?zz264xk10 ?zz264xk11 ?zz264xk12 ?_; (case zz264xk1 => k_asm); (case zz264xk2 => k_asm); (case zz264xk3 => k_asm); (case zz264xk4 => k_mem); (case zz264xk5 => k_mem); (case zz264xk6 => assumption); (case zz264xk7 => first | exact rfl | assumption); (case zz264xk8 => k_is); (case zz264xk9 => k_is); (case zz264xk10 => k_is); (case zz264xk11 => k_is); (case zz264xk12 => k_handed); k_whole))
  k_with "call type:list" => (k_here; (with_reducible show wpAny _ _ (call (Value.type _) [Value.ref _]) _ _ _); (with_unfolding_all refine' list_copyK ?zz265xk1 ?zz265xk2 ?zz265xk3 ?_ ?zz265xz; (case zz265xk1 => k_asm); (case zz265xk2 => k_asm); (case zz265xk3 => exact News.isList (d := none) (sl := #[]) (by k_asm) (by k_mem)); (case zz265xz => size_fits); k_whole); intro D' c' h' F' N' l1; (have nd' := nd_cons l1 (by assumption)); (try k_sweep))
  k_with "compareOp Eq ref ref" => (k_here; (with_reducible show wpAny _ _ (compareOp CmpOp.Eq (Value.ref _) (Value.ref _)) _ _ _); k_dflt (refine' ke_eq_ints (xs := []) (ys := []) ?zz266xa ?zz266xb .nil .nil ?zz266xu ?_; (case zz266xa => exact News.isList (d := none) (sl := #[]) (items := #[]) (by k_asm) (by k_mem)); (case zz266xb => exact News.isList (d := none) (sl := #[]) (items := #[]) (by k_asm) (by k_mem)); (case zz266xu => ktr_units); k_whole))
  k_with "exec Raise some none" => (k_here; k_dflt (refine' raise_own ?zz267xhh ?_; (case zz267xhh => exact rfl); k_whole))
  k_with "Throws" => (refine' Throws.intro (B := "Exception") ?zz268xF ?zz268xX ?zz268xN ?zz268xm ?zz268xc ?zz268xu ?zz268xv ?_; (case zz268xF => k_asm); (case zz268xX => k_asm); (case zz268xN => k_asm); (case zz268xm => k_mem); (case zz268xc => k_is); (case zz268xu => exact ⟨by decide, by decide, by decide, by decide⟩); (case zz268xv => first | rfl | assumption); (try dsimp only))
  k_with "leaving ref" => (k_here; first
  | (refine' leave_first ?zz269xk1 ?zz269xk2 ?zz269xk3 ?zz269xk4 ?zz269xk5 ?zz269xk6 ?_; (case zz269xk2 => assumption); (case zz269xk1 => assumption); (case zz269xk3 => k_asm); (case zz269xk4 => k_mem); (case zz269xk5 => assumption); (case zz269xk6 => assumption); k_whole; intro h' R' U'; (try dsimp only at R' U' ⊢))
  | (refine' leave_on ?zz269xk1 ?zz269xk2 ?zz269xk3 ?zz269xk4 ?_; (case zz269xk3 => assumption); (case zz269xk1 => assumption); (case zz269xk4 => assumption); (case zz269xk2 => assumption); k_whole; intro h' R' U'; (try dsimp only at R' U' ⊢)))
  k_with "compareOp NotEq ref ref" => (k_here; (with_reducible show wpAny _ _ (compareOp CmpOp.NotEq (Value.ref _) (Value.ref _)) _ _ _); k_dflt (refine ne_dataH (by ke_read) (by ke_read) (by ke_shaped) (by ke_shaped) (by ktr_units) ?_); ke_norm)
  k_with "call ref" => (k_here; (with_reducible show wpAny _ _ (call (Value.ref 51) _ _) _ _ _); k_dflt (refine' fault_c (news := []) ?zz271xB ?zz271xF ?zz271xKX ?zz271xT ?zz271xhk ?zz271xN ?zz271xnd ?zz271xhd ?zz271xhu ?_; (case zz271xB => k_asm); (case zz271xF => k_asm); (case zz271xKX => k_asm); (case zz271xT => k_asm); (case zz271xhk => first | exact rfl | assumption); (case zz271xhd => ktr_room); (case zz271xhu => ktr_units); (case zz271xnd => exact List.nodup_nil); (case zz271xN => exact fun p hp => absurd hp List.not_mem_nil); k_whole; intro e' d' od' vs' a0' h' tk' F' N' v0' v1'; (try dsimp only at *); (try k_sweep)))
  trivial



theorem refuse_c {w : World} {mean : ExcName → Option Value} {mg mb : Str → Option Value}
    {dp un : Nat} {gd : Option (List Code)} {cn : Str} {cs : Scope} {a : Addr} {ccd : Value} {cl : List (Str × Addr)} {outer : List Env} {A₀ : Around} {base h₀ : Heap} {L : Addr} {m : Str → Option Value} {news : List (Addr × Obj)} {s : Shared}
    {Q E : Value → Shared → Prop} {sc ds : Addr} {osc : Obj} {ms : Str → Option Value} {sl : Int} {tsl : Tok} {x : Str} {tx : Tok} (hsc : (sc, instObj 228 ds) ∈ news) (hds : (ds, osc) ∈ news) (as : Attrs 16 osc ms) (as1 : ms (Str.ofString "line") = some (.int sl tsl))
    (B : Below A₀ base outer h₀) (F : Fr h₀ L s.heap m) (KX : (Mine.K w.params).In h₀) (T : Top Mine.q0 (looseW Mine.q0 [Str.ofString "Limits"]) mean mg mb h₀) (hk : cs.kind = .function) (N : News h₀ L s.heap news) (hd : dp + 30 < recursionLimit) (hu : un + 700 < cLine)
    (hexc : ∀ e g h' tks, Fr h₀ L g m → g.UpToSlots h' → RaisedM base (envX cn cs L a ccd cl :: outer) e 51 h' → E (.ref e) { s with heap := h', toks := tks }) :
    wpAny (model PySem.Challenge.rw_rg0009_01.row.prog w) (ktrTop dp un gd cn cs L a ccd cl outer) (call (.ref 60) [.ref sc, .str x tx]) Q E s := by
  (try w_top off); revert KX; k_fill; intro KX
  refine wpAny_call ?_
  (k_extra "ENTER")
  k_steps
  all_goals exact hexc _ _ _ _ (by assumption) (by assumption) (by assumption)

end Mine
end
section
open PySem PySem.W PyProof.Rows
namespace Mine
theorem ln20 : True := by
  k_with_none
  k_with "ENTER" => (first | (refine' code_def ?zz284xk1 ?zz284xk2 ?zz284xk3 ?zz284xk4 ?zz284xk5 ?zz284xkA ?zz284xkF ?zz284xkK ?zz284xk6 ?zz284xk7 ?zz284xk8 ?zz284xk9 ?zz284xkB ?_ ?zz284xc2 ?zz284xc3 ?zz284xc4 ?zz284xc5; (case zz284xkA => exact rfl); (case zz284xkF => exact rfl); (case zz284xkK => first | exact rfl | assumption); (case zz284xk1 => k_asm); (case zz284xk2 => k_asm); (case zz284xk3 => k_asm); (case zz284xk4 => k_asm); (case zz284xk5 => k_asm); (case zz284xk6 => k_is); (case zz284xk7 => k_is); (case zz284xk8 => ktr_room); (case zz284xk9 => first | exact BindsTo.of_eq (binds := []) rfl | exact BindsTo.of_eq (binds := [(_, _)]) rfl | exact BindsTo.of_eq (binds := [(_, _), (_, _)]) rfl | exact BindsTo.of_eq (binds := [(_, _), (_, _), (_, _)]) rfl | exact BindsTo.of_eq (binds := [(_, _), (_, _), (_, _), (_, _)]) rfl | exact BindsTo.of_eq (binds := [(_, _), (_, _), (_, _), (_, _), (_, _)]) rfl | exact BindsTo.of_eq (binds := [(_, _), (_, _), (_, _), (_, _), (_, _), (_, _)]) rfl | exact BindsTo.of_eq (binds := [(_, _), (_, _), (_, _), (_, _), (_, _), (_, _), (_, _)]) rfl | exact BindsTo.of_eq (binds := [(_, _), (_, _), (_, _), (_, _), (_, _), (_, _), (_, _), (_, _)]) rfl | exact BindsTo.of_eq (binds := [(_, _), (_, _), (_, _), (_, _), (_, _), (_, _), (_, _), (_, _), (_, _)]) rfl | exact BindsTo.of_eq (binds := [(_, _), (_, _), (_, _), (_, _), (_, _), (_, _), (_, _), (_, _), (_, _), (_, _)]) rfl | exact binds_K (by k_in) rfl (by k_is) rfl rfl rfl); (case zz284xc5 => decide); (case zz284xkB => exact locs rfl); (case zz284xc2 => exact rfl); (case zz284xc3 => exact rfl); (case zz284xc4 => exact rfl); k_whole; intro g' L' h' FG' F' N' B' X' T'; (try dsimp only); (try k_fold)) | (refine' code_defC ?zz284xk1 ?zz284xk2 ?zz284xk3 ?zz284xk4 ?zz284xk5 ?zz284xkA ?zz284xkF ?zz284xkK ?zz284xk6 ?zz284xk7 ?zz284xk8 ?zz284xk9 ?zz284xkB ?zz284xkD ?_ ?zz284xc2 ?zz284xc3 ?zz284xc4; (case zz284xkA => exact rfl); (case zz284xkF => exact rfl); (case zz284xkK => first | exact rfl | assumption); (case zz284xk1 => k_asm); (case zz284xk2 => k_asm); (case zz284xk3 => k_asm); (case zz284xk4 => k_asm); (case zz284xk5 => k_asm); (case zz284xk6 => k_is); (case zz284xk7 => k_is); (case zz284xk8 => ktr_room); (case zz284xk9 => first | exact BindsTo.of_eq (binds := []) rfl | exact BindsTo.of_eq (binds := [(_, _)]) rfl | exact BindsTo.of_eq (binds := [(_, _), (_, _)]) rfl | exact BindsTo.of_eq (binds := [(_, _), (_, _), (_, _)]) rfl | exact BindsTo.of_eq (binds := [(_, _), (_, _), (_, _), (_, _)]) rfl | exact BindsTo.of_eq (binds := [(_, _), (_, _), (_, _), (_, _), (_, _)]) rfl | exact BindsTo.of_eq (binds := [(_, _), (_, _), (_, _), (_, _), (_, _), (_, _)]) rfl | exact BindsTo.of_eq (binds := [(_, _), (_, _), (_, _), (_, _), (_, _), (_, _), (_, _)]) rfl | exact BindsTo.of_eq (binds := [(_, _), (_, _), (_, _), (_, _), (_, _), (_, _), (_, _), (_, _)]) rfl | exact BindsTo.of_eq (binds := [(_, _), (_, _), (_, _), (_, _), (_, _), (_, _), (_, _), (_, _), (_, _)]) rfl | exact BindsTo.of_eq (binds := [(_, _), (_, _), (_, _), (_, _), (_, _), (_, _), (_, _), (_, _), (_, _), (_, _)]) rfl | exact binds_K (by k_in) rfl (by k_is) rfl rfl rfl); (case zz284xkB => exact rfl); (case zz284xkD => decide +kernel); (case zz284xc2 => exact rfl); (case zz284xc3 => exact rfl); (case zz284xc4 => exact rfl); k_whole; intro g' L' h' tk' cells' FG' F' N' Y' B' X' T' l1; k_cells Y'; (try simp only [List.cons_append, List.nil_append] at N'); (try dsimp only); (try k_fold)))
  k_with "call ref" => (k_here; k_dflt (refine' mk_inst ?zz273xk1 ?zz273xk2 ?zz273xk3 ?zz273xk4 ?zz273xk5 ?zz273xk6 ?_; (case zz273xk1 => k_asm); (case zz273xk2 => k_asm); (case zz273xk3 => k_asm); (case zz273xk4 => k_is); (case zz273xk5 => k_is); (case zz273xk6 => k_is); k_whole; intro x' d' o' h' F' N' a' l1 l2; (have nd' := nd_cons2 l1 l2 (by assumption)); (try k_sweep); (k_extra "ENTER")))
  k_with "setAttr ref" => (k_here; k_dflt (refine' at_set ?zz274xk1 ?zz274xk2 ?zz274xk3 ?zz274xk4 ?zz274xk5 ?zz274xk6 ?zz274xk7 ?zz274xk8 ?zz274xk9 ?zz274xk10 ?zz274xk11 ?_; (case zz274xk1 => k_asm); (case zz274xk2 => k_asm); (case zz274xk3 => k_asm); (case zz274xk4 => k_mem); (case zz274xk5 => k_updF); (case zz274xk6 => assumption); (case zz274xk7 => k_is); (case zz274xk8 => k_is); (case zz274xk9 => k_is); (case zz274xk10 => k_is); (case zz274xk11 => exact Nat.le_of_ble_eq_true rfl); k_whole; intro h' o' F' N' a'; (try dsimp only at N' a' F'); (try k_sweep)))
  k_with "setAttr ref" => (k_here; k_dflt (refine' at_again ?zz275xk1 ?zz275xk2 ?zz275xk3 ?zz275xk4 ?zz275xk5 ?zz275xk6 ?zz275xk0 ?zz275xk7 ?zz275xk8 ?zz275xk9 ?zz275xk10 ?zz275xk11 ?_; (case zz275xk1 => k_asm); (case zz275xk2 => k_asm); (case zz275xk3 => k_asm); (case zz275xk4 => k_mem); (case zz275xk5 => k_updF); (case zz275xk6 => assumption); (case zz275xk0 => first | exact rfl | assumption); (case zz275xk7 => k_is); (case zz275xk8 => k_is); (case zz275xk9 => k_is); (case zz275xk10 => k_is); (case zz275xk11 => exact Nat.le_of_ble_eq_true rfl); k_whole; intro h' o' F' N' a'; (try dsimp only at N' a' F'); (try k_sweep)))
  k_with "getAttr ref" => (k_here; k_dflt (refine' at_get ?zz276xk1 ?zz276xk2 ?zz276xk3 ?zz276xk4 ?zz276xk5 ?zz276xk6 ?zz276xk7 ?zz276xk8 ?zz276xk9 ?zz276xk10 ?zz276xk11 ?zz276xk12 ?_; (case zz276xk1 => k_asm); (case zz276xk2 => k_asm); (case zz276xk3 => k_asm); (case zz276xk4 => k_mem); (case zz276xk5 => k_mem); (case zz276xk6 => assumption); (case zz276xk7 => first | exact rfl | assumption); (case zz276xk8 => k_is); (case zz276xk9 => k_is); (case zz276xk10 => k_is); (case zz276xk11 => k_is); (case zz276xk12 => k_handed); k_whole))
  k_with "call type:list" => (k_here; (with_reducible show wpAny _ _ (call (Value.type _) [Value.ref _]) _ _ _); (with_unfolding_all refine' list_copyK ?zz277xk1 ?zz277xk2 ?zz277xk3 ?_ ?zz277xz; (case zz277xk1 => k_asm); (case zz277xk2 => k_asm); (case zz277xk3 => exact News.isList (d := none) (sl := #[]) (by k_asm) (by k_mem)); (case zz277xz => size_fits); k_whole); intro D' c' h' F' N' l1; (have nd' := nd_cons l1 (by assumption)); (try k_sweep))
  k_with "compareOp Eq ref ref" => (k_here; (with_reducible show wpAny _ _ (compareOp CmpOp.Eq (Value.ref _) (Value.ref _)) _ _ _); k_dflt (refine' ke_eq_ints (xs := []) (ys := []) ?zz278xa ?zz278xb .nil .nil ?zz278xu ?_; (case zz278xa => exact News.isList (d := none) (sl := #[]) (items := #[]) (by k_asm) (by k_mem)); (case zz278xb => exact News.isList (d := none) (sl := #[]) (items := #[]) (by k_asm) (by k_mem)); (case zz278xu => ktr_units); k_whole))
  k_with "exec Raise some none" => (k_here; k_dflt (refine' raise_own ?zz279xhh ?_; (case zz279xhh => exact rfl); k_whole))
  k_with "Throws" => (refine' Throws.intro (B := "Exception") ?zz280xF ?zz280xX ?zz280xN ?zz280xm ?zz280xc ?zz280xu ?zz280xv ?_; (case zz280xF => k_asm); (case zz280xX => k_asm); (case zz280xN => k_asm); (case zz280xm => k_mem); (case zz280xc => k_is); (case zz280xu => exact ⟨by decide, by decide, by decide, by decide⟩); (case zz280xv => first | rfl | assumption); (try dsimp only))
  k_with "leaving ref" => (k_here; first
  | (refine' leave_first ?zz281xk1 ?zz281xk2 ?zz281xk3 ?zz281xk4 ?zz281xk5 ?zz281xk6 ?_; (case zz281xk2 => assumption); (case zz281xk1 => assumption); (case zz281xk3 => k_asm); (case zz281xk4 => k_mem); (case zz281xk5 => assumption); (case zz281xk6 => assumption); k_whole; intro h' R' U'; (try dsimp only at R' U' ⊢))
  | (refine' leave_on ?zz281xk1 ?zz281xk2 ?zz281xk3 ?zz281xk4 ?_; (case zz281xk3 => assumption); (case zz281xk1 => assumption); (case zz281xk4 => assumption); (case zz281xk2 => assumption); k_whole; intro h' R' U'; (try dsimp only at R' U' ⊢)))
  k_with "compareOp NotEq ref ref" => (k_here; (with_reducible show wpAny _ _ (compareOp CmpOp.NotEq (Value.ref _) (Value.ref _)) _ _ _); k_dflt (refine ne_dataH (by ke_read) (by ke_read) (by ke_shaped) (by ke_shaped) (by ktr_units) ?_); ke_norm)
  k_with "call ref" => (k_here; (with_reducible show wpAny _ _ (call (Value.ref 60) _ _) _ _ _); k_dflt (refine' refuse_c ?zz283xq1 ?zz283xq2 ?zz283xq3 ?zz283xq4 ?zz283xB ?zz283xF ?zz283xKX ?zz283xT ?zz283xhk ?zz283xN ?zz283xhd ?zz283xhu ?_; (case zz283xB => k_asm); (case zz283xF => k_asm); (case zz283xKX => k_asm); (case zz283xT => k_asm); (case zz283xhk => first | exact rfl | assumption); (case zz283xN => k_asm); (case zz283xhd => ktr_room); (case zz283xhu => ktr_units); (case zz283xq1 => k_mem); (case zz283xq2 => k_mem); (case zz283xq3 => assumption); (case zz283xq4 => first | exact rfl | assumption); k_whole; intro e' g' h' tk' FG' U' R'; (try dsimp only at *); (try k_sweep)))
  trivial



theorem miss_c {w : World} {mean : ExcName → Option Value} {mg mb : Str → Option Value}
    {dp un : Nat} {gd : Option (List Code)} {cn : Str} {cs : Scope} {a : Addr} {ccd : Value} {cl : List (Str × Addr)} {outer : List Env} {A₀ : Around} {base h₀ : Heap} {L : Addr} {m : Str → Option Value} {news : List (Addr × Obj)} {s : Shared}
    {Q E : Value → Shared → Prop} {sc ds : Addr} {osc : Obj} {ms : Str → Option Value} {sl : Int} {tsl : Tok} {e de : Addr} {oe : Obj} {kd nm : Str} {tk tn : Tok} {sv : Value} {ln : Int} {tl : Tok} {reg full : Value} {compl impl : Bool} {home uq nb pa : Value} (hsc : (sc, instObj 228 ds) ∈ news) (as : Attrs 16 osc ms) (as1 : ms (Str.ofString "line") = some (.int sl tsl)) (he : (e, instObj 77 de) ∈ news) (hde : (de, oe) ∈ news) (ae : Attrs 18 oe (at_ (entL kd tk nm tn sv ln tl reg full compl impl home uq nb pa)))
    (B : Below A₀ base outer h₀) (F : Fr h₀ L s.heap m) (KX : (Mine.K w.params).In h₀) (T : Top Mine.q0 (looseW Mine.q0 [Str.ofString "Limits"]) mean mg mb h₀) (hk : cs.kind = .function) (N : News h₀ L s.heap ((ds, osc) :: news)) (nd : (((ds, osc) :: news).map Prod.fst).Nodup) (hd : dp + 40 < recursionLimit) (hu : un + 800 < cLine)
    (hexc : ∀ e g h' tks, Fr h₀ L g m → g.UpToSlots h' → RaisedM base (envX cn cs L a ccd cl :: outer) e 51 h' → E (.ref e) { s with heap := h', toks := tks }) :
    wpAny (model PySem.Challenge.rw_rg0009_01.row.prog w) (ktrTop dp un gd cn cs L a ccd cl outer) (call (.ref 211) [.ref sc, .ref e]) Q E s := by
  (try w_top off); revert KX; k_fill; intro KX
  refine wpAny_call ?_
  (k_extra "ENTER")
  k_steps
  all_goals exact hexc _ _ _ _ (by assumption) (by assumption) (by assumption)

end Mine
end
section
open PySem PySem.W PyProof.Rows
namespace Mine
theorem ln21 : True := by
  k_with_none
  k_with "ENTER" => (first | (refine' code_def ?zz296xk1 ?zz296xk2 ?zz296xk3 ?zz296xk4 ?zz296xk5 ?zz296xkA ?zz296xkF ?zz296xkK ?zz296xk6 ?zz296xk7 ?zz296xk8 ?zz296xk9 ?zz296xkB ?_ ?zz296xc2 ?zz296xc3 ?zz296xc4 ?zz296xc5; (case zz296xkA => exact rfl); (case zz296xkF => exact rfl); (case zz296xkK => first | exact rfl | assumption); (case zz296xk1 => k_asm); (case zz296xk2 => k_asm); (case zz296xk3 => k_asm); (case zz296xk4 => k_asm); (case zz296xk5 => k_asm); (case zz296xk6 => k_is); (case zz296xk7 => k_is); (case zz296xk8 => ktr_room); (case zz296xk9 => first | exact BindsTo.of_eq (binds := []) rfl | exact BindsTo.of_eq (binds := [(_, _)]) rfl | exact BindsTo.of_eq (binds := [(_, _), (_, _)]) rfl | exact BindsTo.of_eq (binds := [(_, _), (_, _), (_, _)]) rfl | exact BindsTo.of_eq (binds := [(_, _), (_, _), (_, _), (_, _)]) rfl | exact BindsTo.of_eq (binds := [(_, _), (_, _), (_, _), (_, _), (_, _)]) rfl | exact BindsTo.of_eq (binds := [(_, _), (_, _), (_, _), (_, _), (_, _), (_, _)]) rfl | exact BindsTo.of_eq (binds := [(_, _), (_, _), (_, _), (_, _), (_, _), (_, _), (_, _)]) rfl | exact BindsTo.of_eq (binds := [(_, _), (_, _), (_, _), (_, _), (_, _), (_, _), (_, _), (_, _)]) rfl | exact BindsTo.of_eq (binds := [(_, _), (_, _), (_, _), (_, _), (_, _), (_, _), (_, _), (_, _), (_, _)]) rfl | exact BindsTo.of_eq (binds := [(_, _), (_, _), (_, _), (_, _), (_, _), (_, _), (_, _), (_, _), (_, _), (_, _)]) rfl | exact binds_K (by k_in) rfl (by k_is) rfl rfl rfl); (case zz296xc5 => decide); (case zz296xkB => exact locs rfl); (case zz296xc2 => exact rfl); (case zz296xc3 => exact rfl); (case zz296xc4 => exact rfl); k_whole; intro g' L' h' FG' F' N' B' X' T'; (try dsimp only); (try k_fold)) | (refine' code_defC ?zz296xk1 ?zz296xk2 ?zz296xk3 ?zz296xk4 ?zz296xk5 ?zz296xkA ?zz296xkF ?zz296xkK ?zz296xk6 ?zz296xk7 ?zz296xk8 ?zz296xk9 ?zz296xkB ?zz296xkD ?_ ?zz296xc2 ?zz296xc3 ?zz296xc4; (case zz296xkA => exact rfl); (case zz296xkF => exact rfl); (case zz296xkK => first | exact rfl | assumption); (case zz296xk1 => k_asm); (case zz296xk2 => k_asm); (case zz296xk3 => k_asm); (case zz296xk4 => k_asm); (case zz296xk5 => k_asm); (case zz296xk6 => k_is); (case zz296xk7 => k_is); (case zz296xk8 => ktr_room); (case zz296xk9 => first | exact BindsTo.of_eq (binds := []) rfl | exact BindsTo.of_eq (binds := [(_, _)]) rfl | exact BindsTo.of_eq (binds := [(_, _), (_, _)]) rfl | exact BindsTo.of_eq (binds := [(_, _), (_, _), (_, _)]) rfl | exact BindsTo.of_eq (binds := [(_, _), (_, _), (_, _), (_, _)]) rfl | exact BindsTo.of_eq (binds := [(_, _), (_, _), (_, _), (_, _), (_, _)]) rfl | exact BindsTo.of_eq (binds := [(_, _), (_, _), (_, _), (_, _), (_, _), (_, _)]) rfl | exact BindsTo.of_eq (binds := [(_, _), (_, _), (_, _), (_, _), (_, _), (_, _), (_, _)]) rfl | exact BindsTo.of_eq (binds := [(_, _), (_, _), (_, _), (_, _), (_, _), (_, _), (_, _), (_, _)]) rfl | exact BindsTo.of_eq (binds := [(_, _), (_, _), (_, _), (_, _), (_, _), (_, _), (_, _), (_, _), (_, _)]) rfl | exact BindsTo.of_eq (binds := [(_, _), (_, _), (_, _), (_, _), (_, _), (_, _), (_, _), (_, _), (_, _), (_, _)]) rfl | exact binds_K (by k_in) rfl (by k_is) rfl rfl rfl); (case zz296xkB => exact rfl); (case zz296xkD => decide +kernel); (case zz296xc2 => exact rfl); (case zz296xc3 => exact rfl); (case zz296xc4 => exact rfl); k_whole; intro g' L' h' tk' cells' FG' F' N' Y' B' X' T' l1; k_cells Y'; (try simp only [List.cons_append, List.nil_append] at N'); (try dsimp only); (try k_fold)))
  k_with "call ref" => (k_here; k_dflt (refine' mk_inst ?zz285xk1 ?zz285xk2 ?zz285xk3 ?zz285xk4 ?zz285xk5 ?zz285xk6 ?_; (case zz285xk1 => k_asm); (case zz285xk2 => k_asm); (case zz285xk3 => k_asm); (case zz285xk4 => k_is); (case zz285xk5 => k_is); (case zz285xk6 => k_is); k_whole; intro x' d' o' h' F' N' a' l1 l2; (have nd' := nd_cons2 l1 l2 (by assumption)); (try k_sweep); (k_extra "ENTER")))
  k_with "setAttr ref" => (k_here; k_dflt (refine' at_set ?zz286xk1 ?zz286xk2 ?zz286xk3 ?zz286xk4 ?zz286xk5 ?zz286xk6 ?zz286xk7 ?zz286xk8 ?zz286xk9 ?zz286xk10 ?zz286xk11 ?_; (case zz286xk1 => k_asm); (case zz286xk2 => k_asm); (case zz286xk3 => k_asm); (case zz286xk4 => k_mem); (case zz286xk5 => k_updF); (case zz286xk6 => assumption); (case zz286xk7 => k_is); (case zz286xk8 => k_is); (case zz286xk9 => k_is); (case zz286xk10 => k_is); (case zz286xk11 => exact Nat.le_of_ble_eq_true rfl); k_whole; intro h' o' F' N' a'; (try dsimp only at N' a' F'); (try k_sweep)))
  k_with "setAttr ref" => (k_here; k_dflt (refine' at_again ?zz287xk1 ?zz287xk2 ?zz287xk3 ?zz287xk4 ?zz287xk5 ?zz287xk6 ?zz287xk0 ?zz287xk7 ?zz287xk8 ?zz287xk9 ?zz287xk10 ?zz287xk11 ?_; (case zz287xk1 => k_asm); (case zz287xk2 => k_asm); (case zz287xk3 => k_asm); (case zz287xk4 => k_mem); (case zz287xk5 => k_updF); (case zz287xk6 => assumption); (case zz287xk0 => first | exact rfl | assumption); (case zz287xk7 => k_is); (case zz287xk8 => k_is); (case zz287xk9 => k_is); (case zz287xk10 => k_is); (case zz287xk11 => exact Nat.le_of_ble_eq_true rfl); k_whole; intro h' o' F' N' a'; (try dsimp only at N' a' F'); (try k_sweep)))
  k_with "getAttr ref" => (k_here; k_dflt (refine' at_get ?zz288xk1 ?zz288xk2 ?zz288xk3 ?zz288xk4 ?zz288xk5 ?zz288xk6 ?zz288xk7 ?zz288xk8 ?zz288xk9 ?zz288xk10 ?zz288xk11 ?zz288xk12 ?_; (case zz288xk1 => k_asm); (case zz288xk2 => k_asm); (case zz288xk3 => k_asm); (case zz288xk4 => k_mem); (case zz288xk5 => k_mem); (case zz288xk6 => assumption); (case zz288xk7 => first | exact rfl | assumption); (case zz288xk8 => k_is); (case zz288xk9 => k_is); (case zz288xk10 => k_is); (case zz288xk11 => k_is); (case zz288xk12 => k_handed); k_whole))
  k_with "call type:list" => (k_here; (with_reducible show wpAny _ _ (call (Value.type _) [Value.ref _]) _ _ _); (with_unfolding_all refine' list_copyK ?zz289xk1 ?zz289xk2 ?zz289xk3 ?_ ?zz289xz; (case zz289xk1 => k_asm); (case zz289xk2 => k_asm); (case zz289xk3 => exact News.isList (d := none) (sl := #[]) (by k_asm) (by k_mem)); (case zz289xz => size_fits); k_whole); intro D' c' h' F' N' l1; (have nd' := nd_cons l1 (by assumption)); (try k_sweep))
  k_with "compareOp Eq ref ref" => (k_here; (with_reducible show wpAny _ _ (compareOp CmpOp.Eq (Value.ref _) (Value.ref _)) _ _ _); k_dflt (refine' ke_eq_ints (xs := []) (ys := []) ?zz290xa ?zz290xb .nil .nil ?zz290xu ?_; (case zz290xa => exact News.isList (d := none) (sl := #[]) (items := #[]) (by k_asm) (by k_mem)); (case zz290xb => exact News.isList (d := none) (sl := #[]) (items := #[]) (by k_asm) (by k_mem)); (case zz290xu => ktr_units); k_whole))
  k_with "exec Raise some none" => (k_here; k_dflt (refine' raise_own ?zz291xhh ?_; (case zz291xhh => exact rfl); k_whole))
  k_with "Throws" => (refine' Throws.intro (B := "Exception") ?zz292xF ?zz292xX ?zz292xN ?zz292xm ?zz292xc ?zz292xu ?zz292xv ?_; (case zz292xF => k_asm); (case zz292xX => k_asm); (case zz292xN => k_asm); (case zz292xm => k_mem); (case zz292xc => k_is); (case zz292xu => exact ⟨by decide, by decide, by decide, by decide⟩); (case zz292xv => first | rfl | assumption); (try dsimp only))
  k_with "leaving ref" => (k_here; first
  | (refine' leave_first ?zz293xk1 ?zz293xk2 ?zz293xk3 ?zz293xk4 ?zz293xk5 ?zz293xk6 ?_; (case zz293xk2 => assumption); (case zz293xk1 => assumption); (case zz293xk3 => k_asm); (case zz293xk4 => k_mem); (case zz293xk5 => assumption); (case zz293xk6 => assumption); k_whole; intro h' R' U'; (try dsimp only at R' U' ⊢))
  | (refine' leave_on ?zz293xk1 ?zz293xk2 ?zz293xk3 ?zz293xk4 ?_; (case zz293xk3 => assumption); (case zz293xk1 => assumption); (case zz293xk4 => assumption); (case zz293xk2 => assumption); k_whole; intro h' R' U'; (try dsimp only at R' U' ⊢)))
  k_with "compareOp NotEq ref ref" => (k_here; (with_reducible show wpAny _ _ (compareOp CmpOp.NotEq (Value.ref _) (Value.ref _)) _ _ _); k_dflt (refine ne_dataH (by ke_read) (by ke_read) (by ke_shaped) (by ke_shaped) (by ktr_units) ?_); ke_norm)
  k_with "call ref" => (k_here; (with_reducible show wpAny _ _ (call (Value.ref 183) _ _) _ _ _); k_dflt (refine' keys0 ?zz295xq1 ?zz295xq2 ?zz295xq3 ?zz295xq4 ?zz295xq5 ?zz295xq6 ?zz295xq7 ?zz295xq8 ?zz295xB ?zz295xF ?zz295xKX ?zz295xT ?zz295xhk ?zz295xN ?zz295xhd ?zz295xhu ?_; (case zz295xB => k_asm); (case zz295xF => k_asm); (case zz295xKX => k_asm); (case zz295xT => k_asm); (case zz295xhk => first | exact rfl | assumption); (case zz295xN => k_asm); (case zz295xhd => ktr_room); (case zz295xhu => ktr_units); (case zz295xq1 => k_mem); (case zz295xq2 => k_mem); (case zz295xq3 => assumption); (case zz295xq4 => assumption); (case zz295xq5 => k_mem); (case zz295xq6 => assumption); (case zz295xq7 => assumption); (case zz295xq8 => assumption); k_whole; intro D' c' its' h' tk' hits' F' N'; (first | subst hits' | (obtain ⟨tq', ht'⟩ := hits'; subst ht')); (try dsimp only at *); (try k_sweep)))
  trivial



theorem conc0 {w : World} {mean : ExcName → Option Value} {mg mb : Str → Option Value}
    {dp un : Nat} {gd : Option (List Code)} {cn : Str} {cs : Scope} {a : Addr} {ccd : Value} {cl : List (Str × Addr)} {outer : List Env} {A₀ : Around} {base h₀ : Heap} {L : Addr} {m : Str → Option Value} {news : List (Addr × Obj)} {s : Shared}
    {Q E : Value → Shared → Prop} {t dt od : Addr} {ot oo : Obj} {k : Nat} {mt : Str → Option Value} {tl : Tok} {ln : Int} (ht : (t, instObj 271 dt) ∈ news) (hdt : (dt, ot) ∈ news) (at1 : Attrs k ot mt) (at2 : mt (Str.ofString "operations") = some (.ref od))
    (hod : (od, oo) ∈ news) (doo : oo.IsDictOf (strKind PySem.Challenge.rw_rg0009_01.row.prog w) []) (dfl : PyProof.V.FlatPairs PyData.str [] []) (lod : (od == sysModules) = false)
    (B : Below A₀ base outer h₀) (F : Fr h₀ L s.heap m) (KX : (Mine.K w.params).In h₀) (T : Top Mine.q0 (looseW Mine.q0 [Str.ofString "Limits"]) mean mg mb h₀) (hk : cs.kind = .function) (N : News h₀ L s.heap news) (hd : dp + 30 < recursionLimit) (hu : un + 700 < cLine)
    (hret : ∀ h' tks, Fr h₀ L h' m → News h₀ L h' news → Q .none { s with heap := h', toks := tks }) :
    wpAny (model PySem.Challenge.rw_rg0009_01.row.prog w) (ktrTop dp un gd cn cs L a ccd cl outer) (call (.ref 190) [.ref t, .int ln tl]) Q E s := by
  (try w_top off); revert KX; k_fill; intro KX
  refine wpAny_call ?_
  (k_extra "ENTER")
  k_steps
  all_goals (first | exact hret _ _ (by k_asm) (by ktr_rel))

end Mine
end
section
open PySem PySem.W PyProof.Rows
namespace Mine
theorem ln22 : True := by
  k_with_none
  k_with "ENTER" => (first | (refine' code_def ?zz308xk1 ?zz308xk2 ?zz308xk3 ?zz308xk4 ?zz308xk5 ?zz308xkA ?zz308xkF ?zz308xkK ?zz308xk6 ?zz308xk7 ?zz308xk8 ?zz308xk9 ?zz308xkB ?_ ?zz308xc2 ?zz308xc3 ?zz308xc4 ?zz308xc5; (case zz308xkA => exact rfl); (case zz308xkF => exact rfl); (case zz308xkK => first | exact rfl | assumption); (case zz308xk1 => k_asm); (case zz308xk2 => k_asm); (case zz308xk3 => k_asm); (case zz308xk4 => k_asm); (case zz308xk5 => k_asm); (case zz308xk6 => k_is); (case zz308xk7 => k_is); (case zz308xk8 => ktr_room); (case zz308xk9 => first | exact BindsTo.of_eq (binds := []) rfl | exact BindsTo.of_eq (binds := [(_, _)]) rfl | exact BindsTo.of_eq (binds := [(_, _), (_, _)]) rfl | exact BindsTo.of_eq (binds := [(_, _), (_, _), (_, _)]) rfl | exact BindsTo.of_eq (binds := [(_, _), (_, _), (_, _), (_, _)]) rfl | exact BindsTo.of_eq (binds := [(_, _), (_, _), (_, _), (_, _), (_, _)]) rfl | exact BindsTo.of_eq (binds := [(_, _), (_, _), (_, _), (_, _), (_, _), (_, _)]) rfl | exact BindsTo.of_eq (binds := [(_, _), (_, _), (_, _), (_, _), (_, _), (_, _), (_, _)]) rfl | exact BindsTo.of_eq (binds := [(_, _), (_, _), (_, _), (_, _), (_, _), (_, _), (_, _), (_, _)]) rfl | exact BindsTo.of_eq (binds := [(_, _), (_, _), (_, _), (_, _), (_, _), (_, _), (_, _), (_, _), (_, _)]) rfl | exact BindsTo.of_eq (binds := [(_, _), (_, _), (_, _), (_, _), (_, _), (_, _), (_, _), (_, _), (_, _), (_, _)]) rfl | exact binds_K (by k_in) rfl (by k_is) rfl rfl rfl); (case zz308xc5 => decide); (case zz308xkB => exact locs rfl); (case zz308xc2 => exact rfl); (case zz308xc3 => exact rfl); (case zz308xc4 => exact rfl); k_whole; intro g' L' h' FG' F' N' B' X' T'; (try dsimp only); (try k_fold)) | (refine' code_defC ?zz308xk1 ?zz308xk2 ?zz308xk3 ?zz308xk4 ?zz308xk5 ?zz308xkA ?zz308xkF ?zz308xkK ?zz308xk6 ?zz308xk7 ?zz308xk8 ?zz308xk9 ?zz308xkB ?zz308xkD ?_ ?zz308xc2 ?zz308xc3 ?zz308xc4; (case zz308xkA => exact rfl); (case zz308xkF => exact rfl); (case zz308xkK => first | exact rfl | assumption); (case zz308xk1 => k_asm); (case zz308xk2 => k_asm); (case zz308xk3 => k_asm); (case zz308xk4 => k_asm); (case zz308xk5 => k_asm); (case zz308xk6 => k_is); (case zz308xk7 => k_is); (case zz308xk8 => ktr_room); (case zz308xk9 => first | exact BindsTo.of_eq (binds := []) rfl | exact BindsTo.of_eq (binds := [(_, _)]) rfl | exact BindsTo.of_eq (binds := [(_, _), (_, _)]) rfl | exact BindsTo.of_eq (binds := [(_, _), (_, _), (_, _)]) rfl | exact BindsTo.of_eq (binds := [(_, _), (_, _), (_, _), (_, _)]) rfl | exact BindsTo.of_eq (binds := [(_, _), (_, _), (_, _), (_, _), (_, _)]) rfl | exact BindsTo.of_eq (binds := [(_, _), (_, _), (_, _), (_, _), (_, _), (_, _)]) rfl | exact BindsTo.of_eq (binds := [(_, _), (_, _), (_, _), (_, _), (_, _), (_, _), (_, _)]) rfl | exact BindsTo.of_eq (binds := [(_, _), (_, _), (_, _), (_, _), (_, _), (_, _), (_, _), (_, _)]) rfl | exact BindsTo.of_eq (binds := [(_, _), (_, _), (_, _), (_, _), (_, _), (_, _), (_, _), (_, _), (_, _)]) rfl | exact BindsTo.of_eq (binds := [(_, _), (_, _), (_, _), (_, _), (_, _), (_, _), (_, _), (_, _), (_, _), (_, _)]) rfl | exact binds_K (by k_in) rfl (by k_is) rfl rfl rfl); (case zz308xkB => exact rfl); (case zz308xkD => decide +kernel); (case zz308xc2 => exact rfl); (case zz308xc3 => exact rfl); (case zz308xc4 => exact rfl); k_whole; intro g' L' h' tk' cells' FG' F' N' Y' B' X' T' l1; k_cells Y'; (try simp only [List.cons_append, List.nil_append] at N'); (try dsimp only); (try k_fold)))
  k_with "call ref" => (k_here; k_dflt (refine' mk_inst ?zz297xk1 ?zz297xk2 ?zz297xk3 ?zz297xk4 ?zz297xk5 ?zz297xk6 ?_; (case zz297xk1 => k_asm); (case zz297xk2 => k_asm); (case zz297xk3 => k_asm); (case zz297xk4 => k_is); (case zz297xk5 => k_is); (case zz297xk6 => k_is); k_whole; intro x' d' o' h' F' N' a' l1 l2; (have nd' := nd_cons2 l1 l2 (by assumption)); (try k_sweep); (k_extra "ENTER")))
  k_with "setAttr ref" => (k_here; k_dflt (refine' at_set ?zz298xk1 ?zz298xk2 ?zz298xk3 ?zz298xk4 ?zz298xk5 ?zz298xk6 ?zz298xk7 ?zz298xk8 ?zz298xk9 ?zz298xk10 ?zz298xk11 ?_; (case zz298xk1 => k_asm); (case zz298xk2 => k_asm); (case zz298xk3 => k_asm); (case zz298xk4 => k_mem); (case zz298xk5 => k_updF); (case zz298xk6 => assumption); (case zz298xk7 => k_is); (case zz298xk8 => k_is); (case zz298xk9 => k_is); (case zz298xk10 => k_is); (case zz298xk11 => exact Nat.le_of_ble_eq_true rfl); k_whole; intro h' o' F' N' a'; (try dsimp only at N' a' F'); (try k_sweep)))
  k_with "setAttr ref" => (k_here; k_dflt (refine' at_again ?zz299xk1 ?zz299xk2 ?zz299xk3 ?zz299xk4 ?zz299xk5 ?zz299xk6 ?zz299xk0 ?zz299xk7 ?zz299xk8 ?zz299xk9 ?zz299xk10 ?zz299xk11 ?_; (case zz299xk1 => k_asm); (case zz299xk2 => k_asm); (case zz299xk3 => k_asm); (case zz299xk4 => k_mem); (case zz299xk5 => k_updF); (case zz299xk6 => assumption); (case zz299xk0 => first | exact rfl | assumption); (case zz299xk7 => k_is); (case zz299xk8 => k_is); (case zz299xk9 => k_is); (case zz299xk10 => k_is); (case zz299xk11 => exact Nat.le_of_ble_eq_true rfl); k_whole; intro h' o' F' N' a'; (try dsimp only at N' a' F'); (try k_sweep)))
  k_with "getAttr ref" => (k_here; k_dflt (refine' at_get ?zz300xk1 ?zz300xk2 ?zz300xk3 ?zz300xk4 ?zz300xk5 ?zz300xk6 ?zz300xk7 ?zz300xk8 ?zz300xk9 ?zz300xk10 ?zz300xk11 ?zz300xk12 ?_; (case zz300xk1 => k_asm); (case zz300xk2 => k_asm); (case zz300xk3 => k_asm); (case zz300xk4 => k_mem); (case zz300xk5 => k_mem); (case zz300xk6 => assumption); (case zz300xk7 => first | exact rfl | assumption); (case zz300xk8 => k_is); (case zz300xk9 => k_is); (case zz300xk10 => k_is); (case zz300xk11 => k_is); (case zz300xk12 => k_handed); k_whole))
  k_with "call type:list" => (k_here; (with_reducible show wpAny _ _ (call (Value.type _) [Value.ref _]) _ _ _); (with_unfolding_all refine' list_copyK ?zz301xk1 ?zz301xk2 ?zz301xk3 ?_ ?zz301xz; (case zz301xk1 => k_asm); (case zz301xk2 => k_asm); (case zz301xk3 => exact News.isList (d := none) (sl := #[]) (by k_asm) (by k_mem)); (case zz301xz => size_fits); k_whole); intro D' c' h' F' N' l1; (have nd' := nd_cons l1 (by assumption)); (try k_sweep))
  k_with "compareOp Eq ref ref" => (k_here; (with_reducible show wpAny _ _ (compareOp CmpOp.Eq (Value.ref _) (Value.ref _)) _ _ _); k_dflt (refine' ke_eq_ints (xs := []) (ys := []) ?zz302xa ?zz302xb .nil .nil ?zz302xu ?_; (case zz302xa => exact News.isList (d := none) (sl := #[]) (items := #[]) (by k_asm) (by k_mem)); (case zz302xb => exact News.isList (d := none) (sl := #[]) (items := #[]) (by k_asm) (by k_mem)); (case zz302xu => ktr_units); k_whole))
  k_with "exec Raise some none" => (k_here; k_dflt (refine' raise_own ?zz303xhh ?_; (case zz303xhh => exact rfl); k_whole))
  k_with "Throws" => (refine' Throws.intro (B := "Exception") ?zz304xF ?zz304xX ?zz304xN ?zz304xm ?zz304xc ?zz304xu ?zz304xv ?_; (case zz304xF => k_asm); (case zz304xX => k_asm); (case zz304xN => k_asm); (case zz304xm => k_mem); (case zz304xc => k_is); (case zz304xu => exact ⟨by decide, by decide, by decide, by decide⟩); (case zz304xv => first | rfl | assumption); (try dsimp only))
  k_with "leaving ref" => (k_here; first
  | (refine' leave_first ?zz305xk1 ?zz305xk2 ?zz305xk3 ?zz305xk4 ?zz305xk5 ?zz305xk6 ?_; (case zz305xk2 => assumption); (case zz305xk1 => assumption); (case zz305xk3 => k_asm); (case zz305xk4 => k_mem); (case zz305xk5 => assumption); (case zz305xk6 => assumption); k_whole; intro h' R' U'; (try dsimp only at R' U' ⊢))
  | (refine' leave_on ?zz305xk1 ?zz305xk2 ?zz305xk3 ?zz305xk4 ?_; (case zz305xk3 => assumption); (case zz305xk1 => assumption); (case zz305xk4 => assumption); (case zz305xk2 => assumption); k_whole; intro h' R' U'; (try dsimp only at R' U' ⊢)))
  k_with "compareOp NotEq ref ref" => (k_here; (with_reducible show wpAny _ _ (compareOp CmpOp.NotEq (Value.ref _) (Value.ref _)) _ _ _); k_dflt (refine ne_dataH (by ke_read) (by ke_read) (by ke_shaped) (by ke_shaped) (by ktr_units) ?_); ke_norm)
  k_with "call ref" => (k_here; (with_reducible show wpAny _ _ (call (Value.ref 183) _ _) _ _ _); k_dflt (refine' keys1 ?zz307xq1 ?zz307xq2 ?zz307xq3 ?zz307xq4 ?zz307xq5 ?zz307xq6 ?zz307xq7 ?zz307xq8 ?zz307xB ?zz307xF ?zz307xKX ?zz307xT ?zz307xhk ?zz307xN ?zz307xhd ?zz307xhu ?_; (case zz307xB => k_asm); (case zz307xF => k_asm); (case zz307xKX => k_asm); (case zz307xT => k_asm); (case zz307xhk => first | exact rfl | assumption); (case zz307xN => k_asm); (case zz307xhd => ktr_room); (case zz307xhu => ktr_units); (case zz307xq1 => k_mem); (case zz307xq2 => k_mem); (case zz307xq3 => assumption); (case zz307xq4 => assumption); (case zz307xq5 => k_mem); (case zz307xq6 => assumption); (case zz307xq7 => assumption); (case zz307xq8 => assumption); k_whole; intro D' c' its' h' tk' hits' F' N'; (first | subst hits' | (obtain ⟨tq', ht'⟩ := hits'; subst ht')); (try dsimp only at *); (try k_sweep)))
  trivial



theorem conc1 {w : World} {mean : ExcName → Option Value} {mg mb : Str → Option Value}
    {dp un : Nat} {gd : Option (List Code)} {cn : Str} {cs : Scope} {a : Addr} {ccd : Value} {cl : List (Str × Addr)} {outer : List Env} {A₀ : Around} {base h₀ : Heap} {L : Addr} {m : Str → Option Value} {news : List (Addr × Obj)} {s : Shared}
    {Q E : Value → Shared → Prop} {t dt od : Addr} {ot oo : Obj} {k : Nat} {mt : Str → Option Value} {ta1 : Tok} {tl : Tok} {ln : Int} (ht : (t, instObj 271 dt) ∈ news) (hdt : (dt, ot) ∈ news) (at1 : Attrs k ot mt) (at2 : mt (Str.ofString "operations") = some (.ref od))
    (hod : (od, oo) ∈ news) (doo : oo.IsDictOf (strKind PySem.Challenge.rw_rg0009_01.row.prog w) [(Str.ofString "f inself", .str (Str.ofString "f.1") ta1)]) (dfl : PyProof.V.FlatPairs PyData.str [(Str.ofString "f inself", .str (Str.ofString "f.1") ta1)] [(.str (Str.ofString "f inself"), .str (Str.ofString "f.1"))]) (lod : (od == sysModules) = false)
    (B : Below A₀ base outer h₀) (F : Fr h₀ L s.heap m) (KX : (Mine.K w.params).In h₀) (T : Top Mine.q0 (looseW Mine.q0 [Str.ofString "Limits"]) mean mg mb h₀) (hk : cs.kind = .function) (N : News h₀ L s.heap news) (hd : dp + 30 < recursionLimit) (hu : un + 700 < cLine)
    (hret : ∀ h' tks, Fr h₀ L h' m → News h₀ L h' news → Q .none { s with heap := h', toks := tks }) :
    wpAny (model PySem.Challenge.rw_rg0009_01.row.prog w) (ktrTop dp un gd cn cs L a ccd cl outer) (call (.ref 190) [.ref t, .int ln tl]) Q E s := by
  (try w_top off); revert KX; k_fill; intro KX
  refine wpAny_call ?_
  (k_extra "ENTER")
  k_steps
  all_goals (first | exact hret _ _ (by k_asm) (by ktr_rel))

end Mine
end
section
open PySem PySem.W PyProof.Rows
namespace Mine
theorem ln23 : True := by
  k_with_none
  k_with "ENTER" => (first | (refine' code_def ?zz321xk1 ?zz321xk2 ?zz321xk3 ?zz321xk4 ?zz321xk5 ?zz321xkA ?zz321xkF ?zz321xkK ?zz321xk6 ?zz321xk7 ?zz321xk8 ?zz321xk9 ?zz321xkB ?_ ?zz321xc2 ?zz321xc3 ?zz321xc4 ?zz321xc5; (case zz321xkA => exact rfl); (case zz321xkF => exact rfl); (case zz321xkK => first | exact rfl | assumption); (case zz321xk1 => k_asm); (case zz321xk2 => k_asm); (case zz321xk3 => k_asm); (case zz321xk4 => k_asm); (case zz321xk5 => k_asm); (case zz321xk6 => k_is); (case zz321xk7 => k_is); (case zz321xk8 => ktr_room); (case zz321xk9 => first | exact BindsTo.of_eq (binds := []) rfl | exact BindsTo.of_eq (binds := [(_, _)]) rfl | exact BindsTo.of_eq (binds := [(_, _), (_, _)]) rfl | exact BindsTo.of_eq (binds := [(_, _), (_, _), (_, _)]) rfl | exact BindsTo.of_eq (binds := [(_, _), (_, _), (_, _), (_, _)]) rfl | exact BindsTo.of_eq (binds := [(_, _), (_, _), (_, _), (_, _), (_, _)]) rfl | exact BindsTo.of_eq (binds := [(_, _), (_, _), (_, _), (_, _), (_, _), (_, _)]) rfl | exact BindsTo.of_eq (binds := [(_, _), (_, _), (_, _), (_, _), (_, _), (_, _), (_, _)]) rfl | exact BindsTo.of_eq (binds := [(_, _), (_, _), (_, _), (_, _), (_, _), (_, _), (_, _), (_, _)]) rfl | exact BindsTo.of_eq (binds := [(_, _), (_, _), (_, _), (_, _), (_, _), (_, _), (_, _), (_, _), (_, _)]) rfl | exact BindsTo.of_eq (binds := [(_, _), (_, _), (_, _), (_, _), (_, _), (_, _), (_, _), (_, _), (_, _), (_, _)]) rfl | exact binds_K (by k_in) rfl (by k_is) rfl rfl rfl); (case zz321xc5 => decide); (case zz321xkB => exact locs rfl); (case zz321xc2 => exact rfl); (case zz321xc3 => exact rfl); (case zz321xc4 => exact rfl); k_whole; intro g' L' h' FG' F' N' B' X' T'; (try dsimp only); (try k_fold)) | (refine' code_defC ?zz321xk1 ?zz321xk2 ?zz321xk3 ?zz321xk4 ?zz321xk5 ?zz321xkA ?zz321xkF ?zz321xkK ?zz321xk6 ?zz321xk7 ?zz321xk8 ?zz321xk9 ?zz321xkB ?zz321xkD ?_ ?zz321xc2 ?zz321xc3 ?zz321xc4; (case zz321xkA => exact rfl); (case zz321xkF => exact rfl); (case zz321xkK => first | exact rfl | assumption); (case zz321xk1 => k_asm); (case zz321xk2 => k_asm); (case zz321xk3 => k_asm); (case zz321xk4 => k_asm); (case zz321xk5 => k_asm); (case zz321xk6 => k_is); (case zz321xk7 => k_is); (case zz321xk8 => ktr_room); (case zz321xk9 => first | exact BindsTo.of_eq (binds := []) rfl | exact BindsTo.of_eq (binds := [(_, _)]) rfl | exact BindsTo.of_eq (binds := [(_, _), (_, _)]) rfl | exact BindsTo.of_eq (binds := [(_, _), (_, _), (_, _)]) rfl | exact BindsTo.of_eq (binds := [(_, _), (_, _), (_, _), (_, _)]) rfl | exact BindsTo.of_eq (binds := [(_, _), (_, _), (_, _), (_, _), (_, _)]) rfl | exact BindsTo.of_eq (binds := [(_, _), (_, _), (_, _), (_, _), (_, _), (_, _)]) rfl | exact BindsTo.of_eq (binds := [(_, _), (_, _), (_, _), (_, _), (_, _), (_, _), (_, _)]) rfl | exact BindsTo.of_eq (binds := [(_, _), (_, _), (_, _), (_, _), (_, _), (_, _), (_, _), (_, _)]) rfl | exact BindsTo.of_eq (binds := [(_, _), (_, _), (_, _), (_, _), (_, _), (_, _), (_, _), (_, _), (_, _)]) rfl | exact BindsTo.of_eq (binds := [(_, _), (_, _), (_, _), (_, _), (_, _), (_, _), (_, _), (_, _), (_, _), (_, _)]) rfl | exact binds_K (by k_in) rfl (by k_is) rfl rfl rfl); (case zz321xkB => exact rfl); (case zz321xkD => decide +kernel); (case zz321xc2 => exact rfl); (case zz321xc3 => exact rfl); (case zz321xc4 => exact rfl); k_whole; intro g' L' h' tk' cells' FG' F' N' Y' B' X' T' l1; k_cells Y'; (try simp only [List.cons_append, List.nil_append] at N'); (try dsimp only); (try k_fold)))
  k_with "call ref" => (k_here; k_dflt (refine' mk_inst ?zz309xk1 ?zz309xk2 ?zz309xk3 ?zz309xk4 ?zz309xk5 ?zz309xk6 ?_; (case zz309xk1 => k_asm); (case zz309xk2 => k_asm); (case zz309xk3 => k_asm); (case zz309xk4 => k_is); (case zz309xk5 => k_is); (case zz309xk6 => k_is); k_whole; intro x' d' o' h' F' N' a' l1 l2; (have nd' := nd_cons2 l1 l2 (by assumption)); (try k_sweep); (k_extra "ENTER")))
  k_with "setAttr ref" => (k_here; k_dflt (refine' at_set ?zz310xk1 ?zz310xk2 ?zz310xk3 ?zz310xk4 ?zz310xk5 ?zz310xk6 ?zz310xk7 ?zz310xk8 ?zz310xk9 ?zz310xk10 ?zz310xk11 ?_; (case zz310xk1 => k_asm); (case zz310xk2 => k_asm); (case zz310xk3 => k_asm); (case zz310xk4 => k_mem); (case zz310xk5 => k_updF); (case zz310xk6 => assumption); (case zz310xk7 => k_is); (case zz310xk8 => k_is); (case zz310xk9 => k_is); (case zz310xk10 => k_is); (case zz310xk11 => exact Nat.le_of_ble_eq_true rfl); k_whole; intro h' o' F' N' a'; (try dsimp only at N' a' F'); (try k_sweep)))
  k_with "setAttr ref" => (k_here; k_dflt (refine' at_again ?zz311xk1 ?zz311xk2 ?zz311xk3 ?zz311xk4 ?zz311xk5 ?zz311xk6 ?zz311xk0 ?zz311xk7 ?zz311xk8 ?zz311xk9 ?zz311xk10 ?zz311xk11 ?_; (case zz311xk1 => k_asm); (case zz311xk2 => k_asm); (case zz311xk3 => k_asm); (case zz311xk4 => k_mem); (case zz311xk5 => k_updF); (case zz311xk6 => assumption); (case zz311xk0 => first | exact rfl | assumption); (case zz311xk7 => k_is); (case zz311xk8 => k_is); (case zz311xk9 => k_is); (case zz311xk10 => k_is); (case zz311xk11 => exact Nat.le_of_ble_eq_true rfl); k_whole; intro h' o' F' N' a'; (try dsimp only at N' a' F'); (try k_sweep)))
  k_with "getAttr ref" => (k_here; k_dflt (refine' at_get ?zz312xk1 ?zz312xk2 ?zz312xk3 ?zz312xk4 ?zz312xk5 ?zz312xk6 ?zz312xk7 ?zz312xk8 ?zz312xk9 ?zz312xk10 ?zz312xk11 ?zz312xk12 ?_; (case zz312xk1 => k_asm); (case zz312xk2 => k_asm); (case zz312xk3 => k_asm); (case zz312xk4 => k_mem); (case zz312xk5 => k_mem); (case zz312xk6 => assumption); (case zz312xk7 => first | exact rfl | assumption); (case zz312xk8 => k_is); (case zz312xk9 => k_is); (case zz312xk10 => k_is); (case zz312xk11 => k_is); (case zz312xk12 => k_handed); k_whole))
  k_with "call type:list" => (k_here; (with_reducible show wpAny _ _ (call (Value.type _) [Value.ref _]) _ _ _); (with_unfolding_all refine' list_copyK ?zz313xk1 ?zz313xk2 ?zz313xk3 ?_ ?zz313xz; (case zz313xk1 => k_asm); (case zz313xk2 => k_asm); (case zz313xk3 => exact News.isList (d := none) (sl := #[]) (by k_asm) (by k_mem)); (case zz313xz => size_fits); k_whole); intro D' c' h' F' N' l1; (have nd' := nd_cons l1 (by assumption)); (try k_sweep))
  k_with "compareOp Eq ref ref" => (k_here; (with_reducible show wpAny _ _ (compareOp CmpOp.Eq (Value.ref _) (Value.ref _)) _ _ _); k_dflt (refine' ke_eq_ints (xs := []) (ys := []) ?zz314xa ?zz314xb .nil .nil ?zz314xu ?_; (case zz314xa => exact News.isList (d := none) (sl := #[]) (items := #[]) (by k_asm) (by k_mem)); (case zz314xb => exact News.isList (d := none) (sl := #[]) (items := #[]) (by k_asm) (by k_mem)); (case zz314xu => ktr_units); k_whole))
  k_with "exec Raise some none" => (k_here; k_dflt (refine' raise_own ?zz315xhh ?_; (case zz315xhh => exact rfl); k_whole))
  k_with "Throws" => (refine' Throws.intro (B := "Exception") ?zz316xF ?zz316xX ?zz316xN ?zz316xm ?zz316xc ?zz316xu ?zz316xv ?_; (case zz316xF => k_asm); (case zz316xX => k_asm); (case zz316xN => k_asm); (case zz316xm => k_mem); (case zz316xc => k_is); (case zz316xu => exact ⟨by decide, by decide, by decide, by decide⟩); (case zz316xv => first | rfl | assumption); (try dsimp only))
  k_with "leaving ref" => (k_here; first
  | (refine' leave_first ?zz317xk1 ?zz317xk2 ?zz317xk3 ?zz317xk4 ?zz317xk5 ?zz317xk6 ?_; (case zz317xk2 => assumption); (case zz317xk1 => assumption); (case zz317xk3 => k_asm); (case zz317xk4 => k_mem); (case zz317xk5 => assumption); (case zz317xk6 => assumption); k_whole; intro h' R' U'; (try dsimp only at R' U' ⊢))
  | (refine' leave_on ?zz317xk1 ?zz317xk2 ?zz317xk3 ?zz317xk4 ?_; (case zz317xk3 => assumption); (case zz317xk1 => assumption); (case zz317xk4 => assumption); (case zz317xk2 => assumption); k_whole; intro h' R' U'; (try dsimp only at R' U' ⊢)))
  k_with "compareOp NotEq ref ref" => (k_here; (with_reducible show wpAny _ _ (compareOp CmpOp.NotEq (Value.ref _) (Value.ref _)) _ _ _); k_dflt (refine ne_dataH (by ke_read) (by ke_read) (by ke_shaped) (by ke_shaped) (by ktr_units) ?_); ke_norm)
  k_with "call ref" => (k_here; (with_reducible show wpAny _ _ (call (Value.ref 51) _ _) _ _ _); k_dflt (refine' fault_c (news := []) ?zz319xB ?zz319xF ?zz319xKX ?zz319xT ?zz319xhk ?zz319xN ?zz319xnd ?zz319xhd ?zz319xhu ?_; (case zz319xB => k_asm); (case zz319xF => k_asm); (case zz319xKX => k_asm); (case zz319xT => k_asm); (case zz319xhk => first | exact rfl | assumption); (case zz319xhd => ktr_room); (case zz319xhu => ktr_units); (case zz319xnd => exact List.nodup_nil); (case zz319xN => exact fun p hp => absurd hp List.not_mem_nil); k_whole; intro e' d' od' vs' a0' h' tk' F' N' v0' v1'; (try dsimp only at *); (try k_sweep)))
  k_with "call ref" => (k_here; (with_reducible show wpAny _ _ (call (Value.ref 183) _ _) _ _ _); k_dflt (refine' keys2 ?zz320xq1 ?zz320xq2 ?zz320xq3 ?zz320xq4 ?zz320xq5 ?zz320xq6 ?zz320xq7 ?zz320xq8 ?zz320xB ?zz320xF ?zz320xKX ?zz320xT ?zz320xhk ?zz320xN ?zz320xhd ?zz320xhu ?_; (case zz320xB => k_asm); (case zz320xF => k_asm); (case zz320xKX => k_asm); (case zz320xT => k_asm); (case zz320xhk => first | exact rfl | assumption); (case zz320xN => k_asm); (case zz320xhd => ktr_room); (case zz320xhu => ktr_units); (case zz320xq1 => k_mem); (case zz320xq2 => k_mem); (case zz320xq3 => assumption); (case zz320xq4 => assumption); (case zz320xq5 => k_mem); (case zz320xq6 => assumption); (case zz320xq7 => assumption); (case zz320xq8 => assumption); k_whole; intro D' c' its' h' tk' hits' F' N'; (first | subst hits' | (obtain ⟨tq', ht'⟩ := hits'; subst ht')); (try dsimp only at *); (try k_sweep)))
  trivial



theorem conc2 {w : World} {mean : ExcName → Option Value} {mg mb : Str → Option Value}
    {dp un : Nat} {gd : Option (List Code)} {cn : Str} {cs : Scope} {a : Addr} {ccd : Value} {cl : List (Str × Addr)} {outer : List Env} {A₀ : Around} {base h₀ : Heap} {L : Addr} {m : Str → Option Value} {news : List (Addr × Obj)} {s : Shared}
    {Q E : Value → Shared → Prop} {t dt od : Addr} {ot oo : Obj} {k : Nat} {mt : Str → Option Value} {ta1 : Tok} {tl : Tok} {ln : Int} (ht : (t, instObj 271 dt) ∈ news) (hdt : (dt, ot) ∈ news) (at1 : Attrs k ot mt) (at2 : mt (Str.ofString "operations") = some (.ref od))
    (hod : (od, oo) ∈ news) (doo : oo.IsDictOf (strKind PySem.Challenge.rw_rg0009_01.row.prog w) [(Str.ofString "f inself", .str (Str.ofString "") ta1)]) (dfl : PyProof.V.FlatPairs PyData.str [(Str.ofString "f inself", .str (Str.ofString "") ta1)] [(.str (Str.ofString "f inself"), .str (Str.ofString ""))]) (lod : (od == sysModules) = false)
    (B : Below A₀ base outer h₀) (F : Fr h₀ L s.heap m) (KX : (Mine.K w.params).In h₀) (T : Top Mine.q0 (looseW Mine.q0 [Str.ofString "Limits"]) mean mg mb h₀) (hk : cs.kind = .function) (N : News h₀ L s.heap news) (hd : dp + 30 < recursionLimit) (hu : un + 700 < cLine)
    (hexc : ∀ e g h' tks, Fr h₀ L g m → g.UpToSlots h' → RaisedM base (envX cn cs L a ccd cl :: outer) e 51 h' → E (.ref e) { s with heap := h', toks := tks }) :
    wpAny (model PySem.Challenge.rw_rg0009_01.row.prog w) (ktrTop dp un gd cn cs L a ccd cl outer) (call (.ref 190) [.ref t, .int ln tl]) Q E s := by
  (try w_top off); revert KX; k_fill; intro KX
  refine wpAny_call ?_
  (k_extra "ENTER")
  k_steps
  all_goals (first | exact hexc _ _ _ _ (by assumption) (by assumption) (by assumption))

end Mine
end
section
open PySem PySem.W PyProof.Rows
namespace Mine
theorem ln24 : True := by
  k_with_none
  k_with "ENTER" => (first | (refine' code_def ?zz336xk1 ?zz336xk2 ?zz336xk3 ?zz336xk4 ?zz336xk5 ?zz336xkA ?zz336xkF ?zz336xkK ?zz336xk6 ?zz336xk7 ?zz336xk8 ?zz336xk9 ?zz336xkB ?_ ?zz336xc2 ?zz336xc3 ?zz336xc4 ?zz336xc5; (case zz336xkA => exact rfl); (case zz336xkF => exact rfl); (case zz336xkK => first | exact rfl | assumption); (case zz336xk1 => k_asm); (case zz336xk2 => k_asm); (case zz336xk3 => k_asm); (case zz336xk4 => k_asm); (case zz336xk5 => k_asm); (case zz336xk6 => k_is); (case zz336xk7 => k_is); (case zz336xk8 => ktr_room); (case zz336xk9 => first | exact BindsTo.of_eq (binds := []) rfl | exact BindsTo.of_eq (binds := [(_, _)]) rfl | exact BindsTo.of_eq (binds := [(_, _), (_, _)]) rfl | exact BindsTo.of_eq (binds := [(_, _), (_, _), (_, _)]) rfl | exact BindsTo.of_eq (binds := [(_, _), (_, _), (_, _), (_, _)]) rfl | exact BindsTo.of_eq (binds := [(_, _), (_, _), (_, _), (_, _), (_, _)]) rfl | exact BindsTo.of_eq (binds := [(_, _), (_, _), (_, _), (_, _), (_, _), (_, _)]) rfl | exact BindsTo.of_eq (binds := [(_, _), (_, _), (_, _), (_, _), (_, _), (_, _), (_, _)]) rfl | exact BindsTo.of_eq (binds := [(_, _), (_, _), (_, _), (_, _), (_, _), (_, _), (_, _), (_, _)]) rfl | exact BindsTo.of_eq (binds := [(_, _), (_, _), (_, _), (_, _), (_, _), (_, _), (_, _), (_, _), (_, _)]) rfl | exact BindsTo.of_eq (binds := [(_, _), (_, _), (_, _), (_, _), (_, _), (_, _), (_, _), (_, _), (_, _), (_, _)]) rfl | exact binds_K (by k_in) rfl (by k_is) rfl rfl rfl); (case zz336xc5 => decide); (case zz336xkB => exact locs rfl); (case zz336xc2 => exact rfl); (case zz336xc3 => exact rfl); (case zz336xc4 => exact rfl); k_whole; intro g' L' h' FG' F' N' B' X' T'; (try dsimp only); (try k_fold)) | (refine' code_defC ?zz336xk1 ?zz336xk2 ?zz336xk3 ?zz336xk4 ?zz336xk5 ?zz336xkA ?zz336xkF ?zz336xkK ?zz336xk6 ?zz336xk7 ?zz336xk8 ?zz336xk9 ?zz336xkB ?zz336xkD ?_ ?zz336xc2 ?zz336xc3 ?zz336xc4; (case zz336xkA => exact rfl); (case zz336xkF => exact rfl); (case zz336xkK => first | exact rfl | assumption); (case zz336xk1 => k_asm); (case zz336xk2 => k_asm); (case zz336xk3 => k_asm); (case zz336xk4 => k_asm); (case zz336xk5 => k_asm); (case zz336xk6 => k_is); (case zz336xk7 => k_is); (case zz336xk8 => ktr_room); (case zz336xk9 => first | exact BindsTo.of_eq (binds := []) rfl | exact BindsTo.of_eq (binds := [(_, _)]) rfl | exact BindsTo.of_eq (binds := [(_, _), (_, _)]) rfl | exact BindsTo.of_eq (binds := [(_, _), (_, _), (_, _)]) rfl | exact BindsTo.of_eq (binds := [(_, _), (_, _), (_, _), (_, _)]) rfl | exact BindsTo.of_eq (binds := [(_, _), (_, _), (_, _), (_, _), (_, _)]) rfl | exact BindsTo.of_eq (binds := [(_, _), (_, _), (_, _), (_, _), (_, _), (_, _)]) rfl | exact BindsTo.of_eq (binds := [(_, _), (_, _), (_, _), (_, _), (_, _), (_, _), (_, _)]) rfl | exact BindsTo.of_eq (binds := [(_, _), (_, _), (_, _), (_, _), (_, _), (_, _), (_, _), (_, _)]) rfl | exact BindsTo.of_eq (binds := [(_, _), (_, _), (_, _), (_, _), (_, _), (_, _), (_, _), (_, _), (_, _)]) rfl | exact BindsTo.of_eq (binds := [(_, _), (_, _), (_, _), (_, _), (_, _), (_, _), (_, _), (_, _), (_, _), (_, _)]) rfl | exact binds_K (by k_in) rfl (by k_is) rfl rfl rfl); (case zz336xkB => exact rfl); (case zz336xkD => decide +kernel); (case zz336xc2 => exact rfl); (case zz336xc3 => exact rfl); (case zz336xc4 => exact rfl); k_whole; intro g' L' h' tk' cells' FG' F' N' Y' B' X' T' l1; k_cells Y'; (try simp only [List.cons_append, List.nil_append] at N'); (try dsimp only); (try k_fold)))
  k_with "call ref" => (k_here; k_dflt (refine' mk_inst ?zz322xk1 ?zz322xk2 ?zz322xk3 ?zz322xk4 ?zz322xk5 ?zz322xk6 ?_; (case zz322xk1 => k_asm); (case zz322xk2 => k_asm); (case zz322xk3 => k_asm); (case zz322xk4 => k_is); (case zz322xk5 => k_is); (case zz322xk6 => k_is); k_whole; intro x' d' o' h' F' N' a' l1 l2; (have nd' := nd_cons2 l1 l2 (by assumption)); (try k_sweep); (k_extra "ENTER")))
  k_with "setAttr ref" => (k_here; k_dflt (refine' at_set ?zz323xk1 ?zz323xk2 ?zz323xk3 ?zz323xk4 ?zz323xk5 ?zz323xk6 ?zz323xk7 ?zz323xk8 ?zz323xk9 ?zz323xk10 ?zz323xk11 ?_; (case zz323xk1 => k_asm); (case zz323xk2 => k_asm); (case zz323xk3 => k_asm); (case zz323xk4 => k_mem); (case zz323xk5 => k_updF); (case zz323xk6 => assumption); (case zz323xk7 => k_is); (case zz323xk8 => k_is); (case zz323xk9 => k_is); (case zz323xk10 => k_is); (case zz323xk11 => exact Nat.le_of_ble_eq_true rfl); k_whole; intro h' o' F' N' a'; (try dsimp only at N' a' F'); (try k_sweep)))
  k_with "setAttr ref" => (k_here; k_dflt (refine' at_again ?zz324xk1 ?zz324xk2 ?zz324xk3 ?zz324xk4 ?zz324xk5 ?zz324xk6 ?zz324xk0 ?zz324xk7 ?zz324xk8 ?zz324xk9 ?zz324xk10 ?zz324xk11 ?_; (case zz324xk1 => k_asm); (case zz324xk2 => k_asm); (case zz324xk3 => k_asm); (case zz324xk4 => k_mem); (case zz324xk5 => k_updF); (case zz324xk6 => assumption); (case zz324xk0 => first | exact rfl | assumption); (case zz324xk7 => k_is); (case zz324xk8 => k_is); (case zz324xk9 => k_is); (case zz324xk10 => k_is); (case zz324xk11 => exact Nat.le_of_ble_eq_true rfl); k_whole; intro h' o' F' N' a'; (try dsimp only at N' a' F'); (try k_sweep)))
  k_with "getAttr ref" => (k_here; k_dflt (refine' at_get ?zz325xk1 ?zz325xk2 ?zz325xk3 ?zz325xk4 ?zz325xk5 ?zz325xk6 ?zz325xk7 ?zz325xk8 ?zz325xk9 ?zz325xk10 ?zz325xk11 ?zz325xk12 ?_; (case zz325xk1 => k_asm); (case zz325xk2 => k_asm); (case zz325xk3 => k_asm); (case zz325xk4 => k_mem); (case zz325xk5 => k_mem); (case zz325xk6 => assumption); (case zz325xk7 => first | exact rfl | assumption); (case zz325xk8 => k_is); (case zz325xk9 => k_is); (case zz325xk10 => k_is); (case zz325xk11 => k_is); (case zz325xk12 => k_handed); k_whole))
  k_with "call type:list" => (k_here; (with_reducible show wpAny _ _ (call (Value.type _) [Value.ref _]) _ _ _); (with_unfolding_all refine' list_copyK ?zz326xk1 ?zz326xk2 ?zz326xk3 ?_ ?zz326xz; (case zz326xk1 => k_asm); (case zz326xk2 => k_asm); (case zz326xk3 => exact News.isList (d := none) (sl := #[]) (by k_asm) (by k_mem)); (case zz326xz => size_fits); k_whole); intro D' c' h' F' N' l1; (have nd' := nd_cons l1 (by assumption)); (try k_sweep))
  k_with "compareOp Eq ref ref" => (k_here; (with_reducible show wpAny _ _ (compareOp CmpOp.Eq (Value.ref _) (Value.ref _)) _ _ _); k_dflt (refine' ke_eq_ints (xs := []) (ys := []) ?zz327xa ?zz327xb .nil .nil ?zz327xu ?_; (case zz327xa => exact News.isList (d := none) (sl := #[]) (items := #[]) (by k_asm) (by k_mem)); (case zz327xb => exact News.isList (d := none) (sl := #[]) (items := #[]) (by k_asm) (by k_mem)); (case zz327xu => ktr_units); k_whole))
  k_with "exec Raise some none" => (k_here; k_dflt (refine' raise_own ?zz328xhh ?_; (case zz328xhh => exact rfl); k_whole))
  k_with "Throws" => (refine' Throws.intro (B := "Exception") ?zz329xF ?zz329xX ?zz329xN ?zz329xm ?zz329xc ?zz329xu ?zz329xv ?_; (case zz329xF => k_asm); (case zz329xX => k_asm); (case zz329xN => k_asm); (case zz329xm => k_mem); (case zz329xc => k_is); (case zz329xu => exact ⟨by decide, by decide, by decide, by decide⟩); (case zz329xv => first | rfl | assumption); (try dsimp only))
  k_with "leaving ref" => (k_here; first
  | (refine' leave_first ?zz330xk1 ?zz330xk2 ?zz330xk3 ?zz330xk4 ?zz330xk5 ?zz330xk6 ?_; (case zz330xk2 => assumption); (case zz330xk1 => assumption); (case zz330xk3 => k_asm); (case zz330xk4 => k_mem); (case zz330xk5 => assumption); (case zz330xk6 => assumption); k_whole; intro h' R' U'; (try dsimp only at R' U' ⊢))
  | (refine' leave_on ?zz330xk1 ?zz330xk2 ?zz330xk3 ?zz330xk4 ?_; (case zz330xk3 => assumption); (case zz330xk1 => assumption); (case zz330xk4 => assumption); (case zz330xk2 => assumption); k_whole; intro h' R' U'; (try dsimp only at R' U' ⊢)))
  k_with "compareOp NotEq ref ref" => (k_here; (with_reducible show wpAny _ _ (compareOp CmpOp.NotEq (Value.ref _) (Value.ref _)) _ _ _); k_dflt (refine ne_dataH (by ke_read) (by ke_read) (by ke_shaped) (by ke_shaped) (by ktr_units) ?_); ke_norm)
  k_with "call ref" => (k_here; (with_reducible show wpAny _ _ (call (Value.ref 178) _ _) _ _ _); k_dflt (refine' own_c ?zz332xq1 ?zz332xq2 ?zz332xq3 ?zz332xq4 ?zz332xq5 ?zz332xq6 ?zz332xq7 ?zz332xq8 ?zz332xq9 ?zz332xq10 ?zz332xq11 ?zz332xB ?zz332xF ?zz332xKX ?zz332xT ?zz332xhk ?zz332xN ?zz332xhd ?zz332xhu ?_; (case zz332xB => k_asm); (case zz332xF => k_asm); (case zz332xKX => k_asm); (case zz332xT => k_asm); (case zz332xhk => first | exact rfl | assumption); (case zz332xN => k_asm); (case zz332xhd => ktr_room); (case zz332xhu => ktr_units); (case zz332xq1 => k_mem); (case zz332xq2 => k_mem); (case zz332xq3 => first | assumption | (refine Attrs.pick (by assumption) ?_; repeat' (first | exact List.forall_mem_nil _ | refine List.forall_mem_cons.mpr ⟨rfl, ?_⟩))); (case zz332xq4 => k_mem); (case zz332xq5 => k_mem); (case zz332xq6 => first | assumption | (refine Attrs.pick (by assumption) ?_; repeat' (first | exact List.forall_mem_nil _ | refine List.forall_mem_cons.mpr ⟨rfl, ?_⟩))); (case zz332xq7 => k_mem); (case zz332xq8 => assumption); (case zz332xq9 => assumption); (case zz332xq10 => k_mem); (case zz332xq11 => assumption); k_whole; intro h' tk' F' N'; (try dsimp only at *); (try k_sweep)))
  k_with "call ref" => (k_here; (with_reducible show wpAny _ _ (call (Value.ref 190) _ _) _ _ _); k_dflt (refine' conc0 ?zz333xq1 ?zz333xq2 ?zz333xq3 ?zz333xq4 ?zz333xq5 ?zz333xq6 ?zz333xq7 ?zz333xq8 ?zz333xB ?zz333xF ?zz333xKX ?zz333xT ?zz333xhk ?zz333xN ?zz333xhd ?zz333xhu ?_; (case zz333xB => k_asm); (case zz333xF => k_asm); (case zz333xKX => k_asm); (case zz333xT => k_asm); (case zz333xhk => first | exact rfl | assumption); (case zz333xN => k_asm); (case zz333xhd => ktr_room); (case zz333xhu => ktr_units); (case zz333xq1 => k_mem); (case zz333xq2 => k_mem); (case zz333xq3 => assumption); (case zz333xq4 => exact rfl); (case zz333xq5 => k_mem); (case zz333xq6 => assumption); (case zz333xq7 => assumption); (case zz333xq8 => assumption); k_whole; intro h' tk' F' N'; (try dsimp only at *); (try k_sweep)))
  k_with "call ref" => (k_here; (with_reducible show wpAny _ _ (call (Value.ref 190) _ _) _ _ _); k_dflt (refine' conc1 ?zz334xq1 ?zz334xq2 ?zz334xq3 ?zz334xq4 ?zz334xq5 ?zz334xq6 ?zz334xq7 ?zz334xq8 ?zz334xB ?zz334xF ?zz334xKX ?zz334xT ?zz334xhk ?zz334xN ?zz334xhd ?zz334xhu ?_; (case zz334xB => k_asm); (case zz334xF => k_asm); (case zz334xKX => k_asm); (case zz334xT => k_asm); (case zz334xhk => first | exact rfl | assumption); (case zz334xN => k_asm); (case zz334xhd => ktr_room); (case zz334xhu => ktr_units); (case zz334xq1 => k_mem); (case zz334xq2 => k_mem); (case zz334xq3 => assumption); (case zz334xq4 => exact rfl); (case zz334xq5 => k_mem); (case zz334xq6 => assumption); (case zz334xq7 => assumption); (case zz334xq8 => assumption); k_whole; intro h' tk' F' N'; (try dsimp only at *); (try k_sweep)))
  k_with "call ref" => (k_here; (with_reducible show wpAny _ _ (call (Value.ref 190) _ _) _ _ _); k_dflt (refine' conc2 ?zz335xq1 ?zz335xq2 ?zz335xq3 ?zz335xq4 ?zz335xq5 ?zz335xq6 ?zz335xq7 ?zz335xq8 ?zz335xB ?zz335xF ?zz335xKX ?zz335xT ?zz335xhk ?zz335xN ?zz335xhd ?zz335xhu ?_; (case zz335xB => k_asm); (case zz335xF => k_asm); (case zz335xKX => k_asm); (case zz335xT => k_asm); (case zz335xhk => first | exact rfl | assumption); (case zz335xN => k_asm); (case zz335xhd => ktr_room); (case zz335xhu => ktr_units); (case zz335xq1 => k_mem); (case zz335xq2 => k_mem); (case zz335xq3 => assumption); (case zz335xq4 => exact rfl); (case zz335xq5 => k_mem); (case zz335xq6 => assumption); (case zz335xq7 => assumption); (case zz335xq8 => assumption); k_whole; intro e' g' h' tk' FG' U' R'; (try dsimp only at *); (try k_sweep)))
  trivial



theorem made_ffs {w : World} {mean : ExcName → Option Value} {mg mb : Str → Option Value}
    {dp un : Nat} {gd : Option (List Code)} {cn : Str} {cs : Scope} {a : Addr} {ccd : Value} {cl : List (Str × Addr)} {outer : List Env} {A₀ : Around} {base h₀ : Heap} {L : Addr} {m : Str → Option Value} {news : List (Addr × Obj)} {s : Shared}
    {Q E : Value → Shared → Prop} {rr drr : Addr} {odrr : Obj} {tkrr tMr tnurr tlvrr tptrr : Tok} {parr : Value} {ptrr : Str} {Mr nurr lvrr : Int} {rnrr rorr ca ta : Addr} {r dr : Addr} {odr : Obj} {kr : Str} {tkr tM1 tnu tlv tpt : Tok} {par : Value} {M1 nu lv : Int} {pt : Str} {rn ro rc rh : Addr} {e de : Addr} {oe : Obj} {nm : Str} {tk tn : Tok}  {ln : Int} {tl : Tok} {reg : Value} {compl impl : Bool} {uq nb pa : Value} {su : Addr} {j : Int} {ot : Obj} {nt : Nat} {ft : Int → Option Value} {tp : Addr} {pt' : Str} {tpt' : Tok}
    (hr : (r, instObj 113 dr) ∈ news) (hdr : (dr, odr) ∈ news) (ar : Attrs 16 odr (at_ (regL kr tkr par rr M1 tM1 nu tnu lv tlv pt tpt rn ro rc rh)))
    (hrr : (rr, instObj 113 drr) ∈ news) (hdrr : (drr, odrr) ∈ news) (arr : Attrs 16 odrr (at_ (regL "root" tkrr parr rr Mr tMr nurr tnurr lvrr tlvrr ptrr tptrr rnrr rorr ca ta))) (hot : (ta, ot) ∈ news) (dt : Dic (intKind PySem.Challenge.rw_rg0009_01.row.prog w) ot nt ft) (lot : (ta == sysModules) = false) (hft : ft j = some (.ref tp)) (htp : (tp, tupObj r pt' tpt') ∈ news)
    (he : (e, instObj 77 de) ∈ news) (hde : (de, oe) ∈ news) (ae : Attrs 18 oe (at_ (entL "type" tk nm tn (.ref su) ln tl reg .none compl impl (.ref r) uq nb pa))) {t dsu dt' od : Addr} {osu ot' oo : Obj} {tj : Tok} 
    (m1 : (su, instObj 292 dsu) ∈ news) (m2 : (dsu, osu) ∈ news) (a1 : Attrs 2 osu (fun y => if y = "type" then some (.ref t) else none)) (m3 : (t, instObj 271 dt') ∈ news) (m4 : (dt', ot') ∈ news) (a2 : Attrs 40 ot' (at_ (tyL false false j tj od))) (m5 : (od, oo) ∈ news) (lod : (od == sysModules) = false)
    (B : Below A₀ base outer h₀) (F : Fr h₀ L s.heap m) (KX : (Mine.K w.params).In h₀) (T : Top Mine.q0 (looseW Mine.q0 [Str.ofString "Limits"]) mean mg mb h₀) (hk : cs.kind = .function) (N : News h₀ L s.heap news) (hd : dp + 40 < recursionLimit) (hu : un + 800 < cLine)
    (hret : ∀ h' tks, Fr h₀ L h' m → News h₀ L h' news → Q .none { s with heap := h', toks := tks }) :
    wpAny (model PySem.Challenge.rw_rg0009_01.row.prog w) (ktrTop dp un gd cn cs L a ccd cl outer) (call (.ref 197) [.ref e]) Q E s := by
  (try w_top off); revert KX; k_fill; intro KX
  refine wpAny_call ?_
  (k_extra "ENTER")
  k_steps
  all_goals exact hret _ _ (by k_asm) (by ktr_rel)

theorem made_fts {w : World} {mean : ExcName → Option Value} {mg mb : Str → Option Value}
    {dp un : Nat} {gd : Option (List Code)} {cn : Str} {cs : Scope} {a : Addr} {ccd : Value} {cl : List (Str × Addr)} {outer : List Env} {A₀ : Around} {base h₀ : Heap} {L : Addr} {m : Str → Option Value} {news : List (Addr × Obj)} {s : Shared}
    {Q E : Value → Shared → Prop} {rr drr : Addr} {odrr : Obj} {tkrr tMr tnurr tlvrr tptrr : Tok} {parr : Value} {ptrr : Str} {Mr nurr lvrr : Int} {rnrr rorr ca ta : Addr} {r dr : Addr} {odr : Obj} {kr : Str} {tkr tM1 tnu tlv tpt : Tok} {par : Value} {M1 nu lv : Int} {pt : Str} {rn ro rc rh : Addr} {e de : Addr} {oe : Obj} {nm : Str} {tk tn : Tok}  {ln : Int} {tl : Tok} {reg : Value} {compl impl : Bool} {uq nb pa : Value} {su : Addr} {j : Int} {ot : Obj} {nt : Nat} {ft : Int → Option Value} {tp : Addr} {pt' : Str} {tpt' : Tok}
    (hr : (r, instObj 113 dr) ∈ news) (hdr : (dr, odr) ∈ news) (ar : Attrs 16 odr (at_ (regL kr tkr par rr M1 tM1 nu tnu lv tlv pt tpt rn ro rc rh)))
    (hrr : (rr, instObj 113 drr) ∈ news) (hdrr : (drr, odrr) ∈ news) (arr : Attrs 16 odrr (at_ (regL "root" tkrr parr rr Mr tMr nurr tnurr lvrr tlvrr ptrr tptrr rnrr rorr ca ta))) (hot : (ta, ot) ∈ news) (dt : Dic (intKind PySem.Challenge.rw_rg0009_01.row.prog w) ot nt ft) (lot : (ta == sysModules) = false) (hft : ft j = some (.ref tp)) (htp : (tp, tupObj r pt' tpt') ∈ news)
    (he : (e, instObj 77 de) ∈ news) (hde : (de, oe) ∈ news) (ae : Attrs 18 oe (at_ (entL "type" tk nm tn (.ref su) ln tl reg .none compl impl (.ref r) uq nb pa))) {t dsu dt' od : Addr} {osu ot' oo : Obj} {tj : Tok} 
    (m1 : (su, instObj 292 dsu) ∈ news) (m2 : (dsu, osu) ∈ news) (a1 : Attrs 2 osu (fun y => if y = "type" then some (.ref t) else none)) (m3 : (t, instObj 271 dt') ∈ news) (m4 : (dt', ot') ∈ news) (a2 : Attrs 40 ot' (at_ (tyL false true j tj od))) (m5 : (od, oo) ∈ news) (lod : (od == sysModules) = false)
    (B : Below A₀ base outer h₀) (F : Fr h₀ L s.heap m) (KX : (Mine.K w.params).In h₀) (T : Top Mine.q0 (looseW Mine.q0 [Str.ofString "Limits"]) mean mg mb h₀) (hk : cs.kind = .function) (N : News h₀ L s.heap news) (hd : dp + 40 < recursionLimit) (hu : un + 800 < cLine)
    (hret : ∀ h' tks, Fr h₀ L h' m → News h₀ L h' news → Q .none { s with heap := h', toks := tks }) :
    wpAny (model PySem.Challenge.rw_rg0009_01.row.prog w) (ktrTop dp un gd cn cs L a ccd cl outer) (call (.ref 197) [.ref e]) Q E s := by
  (try w_top off); revert KX; k_fill; intro KX
  refine wpAny_call ?_
  (k_extra "ENTER")
  k_steps
  all_goals exact hret _ _ (by k_asm) (by ktr_rel)

theorem made_tts {w : World} {mean : ExcName → Option Value} {mg mb : Str → Option Value}
    {dp un : Nat} {gd : Option (List Code)} {cn : Str} {cs : Scope} {a : Addr} {ccd : Value} {cl : List (Str × Addr)} {outer : List Env} {A₀ : Around} {base h₀ : Heap} {L : Addr} {m : Str → Option Value} {news : List (Addr × Obj)} {s : Shared}
    {Q E : Value → Shared → Prop} {rr drr : Addr} {odrr : Obj} {tkrr tMr tnurr tlvrr tptrr : Tok} {parr : Value} {ptrr : Str} {Mr nurr lvrr : Int} {rnrr rorr ca ta : Addr} {r dr : Addr} {odr : Obj} {kr : Str} {tkr tM1 tnu tlv tpt : Tok} {par : Value} {M1 nu lv : Int} {pt : Str} {rn ro rc rh : Addr} {e de : Addr} {oe : Obj} {nm : Str} {tk tn : Tok}  {ln : Int} {tl : Tok} {reg : Value} {compl impl : Bool} {uq nb pa : Value} {su : Addr} {j : Int} {ot : Obj} {nt : Nat} {ft : Int → Option Value} {tp : Addr} {pt' : Str} {tpt' : Tok}
    (hr : (r, instObj 113 dr) ∈ news) (hdr : (dr, odr) ∈ news) (ar : Attrs 16 odr (at_ (regL kr tkr par rr M1 tM1 nu tnu lv tlv pt tpt rn ro rc rh)))
    (hrr : (rr, instObj 113 drr) ∈ news) (hdrr : (drr, odrr) ∈ news) (arr : Attrs 16 odrr (at_ (regL "root" tkrr parr rr Mr tMr nurr tnurr lvrr tlvrr ptrr tptrr rnrr rorr ca ta))) (hot : (ta, ot) ∈ news) (dt : Dic (intKind PySem.Challenge.rw_rg0009_01.row.prog w) ot nt ft) (lot : (ta == sysModules) = false) (hft : ft j = some (.ref tp)) (htp : (tp, tupObj r pt' tpt') ∈ news)
    (he : (e, instObj 77 de) ∈ news) (hde : (de, oe) ∈ news) (ae : Attrs 18 oe (at_ (entL "type" tk nm tn (.ref su) ln tl reg .none compl impl (.ref r) uq nb pa))) {t dsu dt' od : Addr} {osu ot' oo : Obj} {tj : Tok} 
    (m1 : (su, instObj 292 dsu) ∈ news) (m2 : (dsu, osu) ∈ news) (a1 : Attrs 2 osu (fun y => if y = "type" then some (.ref t) else none)) (m3 : (t, instObj 271 dt') ∈ news) (m4 : (dt', ot') ∈ news) (a2 : Attrs 40 ot' (at_ (tyL true true j tj od))) (m5 : (od, oo) ∈ news) (lod : (od == sysModules) = false)
    (B : Below A₀ base outer h₀) (F : Fr h₀ L s.heap m) (KX : (Mine.K w.params).In h₀) (T : Top Mine.q0 (looseW Mine.q0 [Str.ofString "Limits"]) mean mg mb h₀) (hk : cs.kind = .function) (N : News h₀ L s.heap news) (hd : dp + 40 < recursionLimit) (hu : un + 800 < cLine)
    (hret : ∀ h' tks, Fr h₀ L h' m → News h₀ L h' news → Q .none { s with heap := h', toks := tks }) :
    wpAny (model PySem.Challenge.rw_rg0009_01.row.prog w) (ktrTop dp un gd cn cs L a ccd cl outer) (call (.ref 197) [.ref e]) Q E s := by
  (try w_top off); revert KX; k_fill; intro KX
  refine wpAny_call ?_
  (k_extra "ENTER")
  k_steps
  all_goals exact hret _ _ (by k_asm) (by ktr_rel)

theorem made_tfsn {w : World} {mean : ExcName → Option Value} {mg mb : Str → Option Value}
    {dp un : Nat} {gd : Option (List Code)} {cn : Str} {cs : Scope} {a : Addr} {ccd : Value} {cl : List (Str × Addr)} {outer : List Env} {A₀ : Around} {base h₀ : Heap} {L : Addr} {m : Str → Option Value} {news : List (Addr × Obj)} {s : Shared}
    {Q E : Value → Shared → Prop} {rr drr : Addr} {odrr : Obj} {tkrr tMr tnurr tlvrr tptrr : Tok} {parr : Value} {ptrr : Str} {Mr nurr lvrr : Int} {rnrr rorr ca ta : Addr} {r dr : Addr} {odr : Obj} {kr : Str} {tkr tM1 tnu tlv tpt : Tok} {par : Value} {M1 nu lv : Int} {pt : Str} {rn ro rc rh : Addr} {e de : Addr} {oe : Obj} {nm : Str} {tk tn : Tok}  {ln : Int} {tl : Tok} {reg : Value} {compl impl : Bool} {uq nb pa : Value} {su : Addr} {j : Int} {ot : Obj} {nt : Nat} {ft : Int → Option Value} {tp : Addr} {pt' : Str} {tpt' : Tok}
    (hr : (r, instObj 113 dr) ∈ news) (hdr : (dr, odr) ∈ news) (ar : Attrs 16 odr (at_ (regL kr tkr par rr M1 tM1 nu tnu lv tlv pt tpt rn ro rc rh)))
    (hrr : (rr, instObj 113 drr) ∈ news) (hdrr : (drr, odrr) ∈ news) (arr : Attrs 16 odrr (at_ (regL "root" tkrr parr rr Mr tMr nurr tnurr lvrr tlvrr ptrr tptrr rnrr rorr ca ta))) (hot : (ta, ot) ∈ news) (dt : Dic (intKind PySem.Challenge.rw_rg0009_01.row.prog w) ot nt ft) (lot : (ta == sysModules) = false) (hft : ft j = some (.ref tp)) (htp : (tp, tupObj r pt' tpt') ∈ news)
    (he : (e, instObj 77 de) ∈ news) (hde : (de, oe) ∈ news) (ae : Attrs 18 oe (at_ (entL "type" tk nm tn (.ref su) ln tl reg .none compl impl (.ref r) uq nb pa))) {t dsu dt' od : Addr} {osu ot' oo : Obj} {tj : Tok} 
    (m1 : (su, instObj 292 dsu) ∈ news) (m2 : (dsu, osu) ∈ news) (a1 : Attrs 2 osu (fun y => if y = "type" then some (.ref t) else none)) (m3 : (t, instObj 271 dt') ∈ news) (m4 : (dt', ot') ∈ news) (a2 : Attrs 40 ot' (at_ (tyL true false j tj od))) (m5 : (od, oo) ∈ news) (lod : (od == sysModules) = false) (doo : oo.IsDictOf (strKind PG w) [])
    (B : Below A₀ base outer h₀) (F : Fr h₀ L s.heap m) (KX : (Mine.K w.params).In h₀) (T : Top Mine.q0 (looseW Mine.q0 [Str.ofString "Limits"]) mean mg mb h₀) (hk : cs.kind = .function) (N : News h₀ L s.heap news) (hd : dp + 40 < recursionLimit) (hu : un + 800 < cLine)
    (hret : ∀ h' tks, Fr h₀ L h' m → News h₀ L h' news → Q .none { s with heap := h', toks := tks }) :
    wpAny (model PySem.Challenge.rw_rg0009_01.row.prog w) (ktrTop dp un gd cn cs L a ccd cl outer) (call (.ref 197) [.ref e]) Q E s := by
  have dfl := flat0 doo
  (try w_top off); revert KX; k_fill; intro KX
  refine wpAny_call ?_
  (k_extra "ENTER")
  k_steps
  all_goals exact hret _ _ (by k_asm) (by ktr_rel)

theorem made_tfst {w : World} {mean : ExcName → Option Value} {mg mb : Str → Option Value}
    {dp un : Nat} {gd : Option (List Code)} {cn : Str} {cs : Scope} {a : Addr} {ccd : Value} {cl : List (Str × Addr)} {outer : List Env} {A₀ : Around} {base h₀ : Heap} {L : Addr} {m : Str → Option Value} {news : List (Addr × Obj)} {s : Shared}
    {Q E : Value → Shared → Prop} {rr drr : Addr} {odrr : Obj} {tkrr tMr tnurr tlvrr tptrr : Tok} {parr : Value} {ptrr : Str} {Mr nurr lvrr : Int} {rnrr rorr ca ta : Addr} {r dr : Addr} {odr : Obj} {kr : Str} {tkr tM1 tnu tlv tpt : Tok} {par : Value} {M1 nu lv : Int} {pt : Str} {rn ro rc rh : Addr} {e de : Addr} {oe : Obj} {nm : Str} {tk tn : Tok}  {ln : Int} {tl : Tok} {reg : Value} {compl impl : Bool} {uq nb pa : Value} {su : Addr} {j : Int} {ot : Obj} {nt : Nat} {ft : Int → Option Value} {tp : Addr} {pt' : Str} {tpt' : Tok}
    (hr : (r, instObj 113 dr) ∈ news) (hdr : (dr, odr) ∈ news) (ar : Attrs 16 odr (at_ (regL kr tkr par rr M1 tM1 nu tnu lv tlv pt tpt rn ro rc rh)))
    (hrr : (rr, instObj 113 drr) ∈ news) (hdrr : (drr, odrr) ∈ news) (arr : Attrs 16 odrr (at_ (regL "root" tkrr parr rr Mr tMr nurr tnurr lvrr tlvrr ptrr tptrr rnrr rorr ca ta))) (hot : (ta, ot) ∈ news) (dt : Dic (intKind PySem.Challenge.rw_rg0009_01.row.prog w) ot nt ft) (lot : (ta == sysModules) = false) (hft : ft j = some (.ref tp)) (htp : (tp, tupObj r pt' tpt') ∈ news)
    (he : (e, instObj 77 de) ∈ news) (hde : (de, oe) ∈ news) (ae : Attrs 18 oe (at_ (entL "type" tk nm tn (.ref su) ln tl reg .none compl impl (.ref r) uq nb pa))) {t0 : Tok} {t dsu dt' od : Addr} {osu ot' oo : Obj} {tj : Tok} 
    (m1 : (su, instObj 292 dsu) ∈ news) (m2 : (dsu, osu) ∈ news) (a1 : Attrs 2 osu (fun y => if y = "type" then some (.ref t) else none)) (m3 : (t, instObj 271 dt') ∈ news) (m4 : (dt', ot') ∈ news) (a2 : Attrs 40 ot' (at_ (tyL true false j tj od))) (m5 : (od, oo) ∈ news) (lod : (od == sysModules) = false) (doo : oo.IsDictOf (strKind PG w) [(Str.ofString "f inself", .str (Str.ofString "f.1") t0)])
    (B : Below A₀ base outer h₀) (F : Fr h₀ L s.heap m) (KX : (Mine.K w.params).In h₀) (T : Top Mine.q0 (looseW Mine.q0 [Str.ofString "Limits"]) mean mg mb h₀) (hk : cs.kind = .function) (N : News h₀ L s.heap news) (hd : dp + 40 < recursionLimit) (hu : un + 800 < cLine)
    (hret : ∀ h' tks, Fr h₀ L h' m → News h₀ L h' news → Q .none { s with heap := h', toks := tks }) :
    wpAny (model PySem.Challenge.rw_rg0009_01.row.prog w) (ktrTop dp un gd cn cs L a ccd cl outer) (call (.ref 197) [.ref e]) Q E s := by
  have dfl := flat1 doo
  (try w_top off); revert KX; k_fill; intro KX
  refine wpAny_call ?_
  (k_extra "ENTER")
  k_steps
  all_goals exact hret _ _ (by k_asm) (by ktr_rel)

theorem made_tfso {w : World} {mean : ExcName → Option Value} {mg mb : Str → Option Value}
    {dp un : Nat} {gd : Option (List Code)} {cn : Str} {cs : Scope} {a : Addr} {ccd : Value} {cl : List (Str × Addr)} {outer : List Env} {A₀ : Around} {base h₀ : Heap} {L : Addr} {m : Str → Option Value} {news : List (Addr × Obj)} {s : Shared}
    {Q E : Value → Shared → Prop} {rr drr : Addr} {odrr : Obj} {tkrr tMr tnurr tlvrr tptrr : Tok} {parr : Value} {ptrr : Str} {Mr nurr lvrr : Int} {rnrr rorr ca ta : Addr} {r dr : Addr} {odr : Obj} {kr : Str} {tkr tM1 tnu tlv tpt : Tok} {par : Value} {M1 nu lv : Int} {pt : Str} {rn ro rc rh : Addr} {e de : Addr} {oe : Obj} {nm : Str} {tk tn : Tok}  {ln : Int} {tl : Tok} {reg : Value} {compl impl : Bool} {uq nb pa : Value} {su : Addr} {j : Int} {ot : Obj} {nt : Nat} {ft : Int → Option Value} {tp : Addr} {pt' : Str} {tpt' : Tok}
    (hr : (r, instObj 113 dr) ∈ news) (hdr : (dr, odr) ∈ news) (ar : Attrs 16 odr (at_ (regL kr tkr par rr M1 tM1 nu tnu lv tlv pt tpt rn ro rc rh)))
    (hrr : (rr, instObj 113 drr) ∈ news) (hdrr : (drr, odrr) ∈ news) (arr : Attrs 16 odrr (at_ (regL "root" tkrr parr rr Mr tMr nurr tnurr lvrr tlvrr ptrr tptrr rnrr rorr ca ta))) (hot : (ta, ot) ∈ news) (dt : Dic (intKind PySem.Challenge.rw_rg0009_01.row.prog w) ot nt ft) (lot : (ta == sysModules) = false) (hft : ft j = some (.ref tp)) (htp : (tp, tupObj r pt' tpt') ∈ news)
    (he : (e, instObj 77 de) ∈ news) (hde : (de, oe) ∈ news) (ae : Attrs 18 oe (at_ (entL "type" tk nm tn (.ref su) ln tl reg .none compl impl (.ref r) uq nb pa))) {t0 : Tok} {t dsu dt' od : Addr} {osu ot' oo : Obj} {tj : Tok} 
    (m1 : (su, instObj 292 dsu) ∈ news) (m2 : (dsu, osu) ∈ news) (a1 : Attrs 2 osu (fun y => if y = "type" then some (.ref t) else none)) (m3 : (t, instObj 271 dt') ∈ news) (m4 : (dt', ot') ∈ news) (a2 : Attrs 40 ot' (at_ (tyL true false j tj od))) (m5 : (od, oo) ∈ news) (lod : (od == sysModules) = false) (doo : oo.IsDictOf (strKind PG w) [(Str.ofString "f inself", .str (Str.ofString "") t0)])
    (B : Below A₀ base outer h₀) (F : Fr h₀ L s.heap m) (KX : (Mine.K w.params).In h₀) (T : Top Mine.q0 (looseW Mine.q0 [Str.ofString "Limits"]) mean mg mb h₀) (hk : cs.kind = .function) (N : News h₀ L s.heap news) (hd : dp + 40 < recursionLimit) (hu : un + 800 < cLine)
    (hexc : ∀ e g h' tks, Fr h₀ L g m → g.UpToSlots h' → RaisedM base (envX cn cs L a ccd cl :: outer) e 51 h' → E (.ref e) { s with heap := h', toks := tks }) :
    wpAny (model PySem.Challenge.rw_rg0009_01.row.prog w) (ktrTop dp un gd cn cs L a ccd cl outer) (call (.ref 197) [.ref e]) Q E s := by
  have dfl := flat1 doo
  (try w_top off); revert KX; k_fill; intro KX
  refine wpAny_call ?_
  (k_extra "ENTER")
  k_steps
  all_goals exact hexc _ _ _ _ (by assumption) (by assumption) (by assumption)

theorem made_fff {w : World} {mean : ExcName → Option Value} {mg mb : Str → Option Value}
    {dp un : Nat} {gd : Option (List Code)} {cn : Str} {cs : Scope} {a : Addr} {ccd : Value} {cl : List (Str × Addr)} {outer : List Env} {A₀ : Around} {base h₀ : Heap} {L : Addr} {m : Str → Option Value} {news : List (Addr × Obj)} {s : Shared}
    {Q E : Value → Shared → Prop} {rr drr : Addr} {odrr : Obj} {tkrr tMr tnurr tlvrr tptrr : Tok} {parr : Value} {ptrr : Str} {Mr nurr lvrr : Int} {rnrr rorr ca ta : Addr} {r dr : Addr} {odr : Obj} {kr : Str} {tkr tM1 tnu tlv tpt : Tok} {par : Value} {M1 nu lv : Int} {pt : Str} {rn ro rc rh : Addr} {e de : Addr} {oe : Obj} {nm : Str} {tk tn : Tok} {sv : Value} {ln : Int} {tl : Tok} {reg : Value} {compl impl : Bool} {uq nb pa : Value} {su : Addr} {j : Int} {ot : Obj} {nt : Nat} {ft : Int → Option Value} {tp : Addr} {pt' : Str} {tpt' : Tok}
    (hr : (r, instObj 113 dr) ∈ news) (hdr : (dr, odr) ∈ news) (ar : Attrs 16 odr (at_ (regL kr tkr par rr M1 tM1 nu tnu lv tlv pt tpt rn ro rc rh)))
    (hrr : (rr, instObj 113 drr) ∈ news) (hdrr : (drr, odrr) ∈ news) (arr : Attrs 16 odrr (at_ (regL "root" tkrr parr rr Mr tMr nurr tnurr lvrr tlvrr ptrr tptrr rnrr rorr ca ta))) (hot : (ta, ot) ∈ news) (dt : Dic (intKind PySem.Challenge.rw_rg0009_01.row.prog w) ot nt ft) (lot : (ta == sysModules) = false) (hft : ft j = some (.ref tp)) (htp : (tp, tupObj r pt' tpt') ∈ news)
    (he : (e, instObj 77 de) ∈ news) (hde : (de, oe) ∈ news) (ae : Attrs 18 oe (at_ (entL "type" tk nm tn sv ln tl reg (.ref su) compl impl (.ref r) uq nb pa))) {t dsu dt' od : Addr} {osu ot' oo : Obj} {tj : Tok} (hsv : handedIn sv = true) 
    (m1 : (su, instObj 292 dsu) ∈ news) (m2 : (dsu, osu) ∈ news) (a1 : Attrs 2 osu (fun y => if y = "type" then some (.ref t) else none)) (m3 : (t, instObj 271 dt') ∈ news) (m4 : (dt', ot') ∈ news) (a2 : Attrs 40 ot' (at_ (tyL false false j tj od))) (m5 : (od, oo) ∈ news) (lod : (od == sysModules) = false)
    (B : Below A₀ base outer h₀) (F : Fr h₀ L s.heap m) (KX : (Mine.K w.params).In h₀) (T : Top Mine.q0 (looseW Mine.q0 [Str.ofString "Limits"]) mean mg mb h₀) (hk : cs.kind = .function) (N : News h₀ L s.heap news) (hd : dp + 40 < recursionLimit) (hu : un + 800 < cLine)
    (hret : ∀ h' tks, Fr h₀ L h' m → News h₀ L h' news → Q .none { s with heap := h', toks := tks }) :
    wpAny (model PySem.Challenge.rw_rg0009_01.row.prog w) (ktrTop dp un gd cn cs L a ccd cl outer) (call (.ref 197) [.ref e]) Q E s := by
  (try w_top off); revert KX; k_fill; intro KX
  refine wpAny_call ?_
  (k_extra "ENTER")
  k_steps
  all_goals exact hret _ _ (by k_asm) (by ktr_rel)

theorem made_ftf {w : World} {mean : ExcName → Option Value} {mg mb : Str → Option Value}
    {dp un : Nat} {gd : Option (List Code)} {cn : Str} {cs : Scope} {a : Addr} {ccd : Value} {cl : List (Str × Addr)} {outer : List Env} {A₀ : Around} {base h₀ : Heap} {L : Addr} {m : Str → Option Value} {news : List (Addr × Obj)} {s : Shared}
    {Q E : Value → Shared → Prop} {rr drr : Addr} {odrr : Obj} {tkrr tMr tnurr tlvrr tptrr : Tok} {parr : Value} {ptrr : Str} {Mr nurr lvrr : Int} {rnrr rorr ca ta : Addr} {r dr : Addr} {odr : Obj} {kr : Str} {tkr tM1 tnu tlv tpt : Tok} {par : Value} {M1 nu lv : Int} {pt : Str} {rn ro rc rh : Addr} {e de : Addr} {oe : Obj} {nm : Str} {tk tn : Tok} {sv : Value} {ln : Int} {tl : Tok} {reg : Value} {compl impl : Bool} {uq nb pa : Value} {su : Addr} {j : Int} {ot : Obj} {nt : Nat} {ft : Int → Option Value} {tp : Addr} {pt' : Str} {tpt' : Tok}
    (hr : (r, instObj 113 dr) ∈ news) (hdr : (dr, odr) ∈ news) (ar : Attrs 16 odr (at_ (regL kr tkr par rr M1 tM1 nu tnu lv tlv pt tpt rn ro rc rh)))
    (hrr : (rr, instObj 113 drr) ∈ news) (hdrr : (drr, odrr) ∈ news) (arr : Attrs 16 odrr (at_ (regL "root" tkrr parr rr Mr tMr nurr tnurr lvrr tlvrr ptrr tptrr rnrr rorr ca ta))) (hot : (ta, ot) ∈ news) (dt : Dic (intKind PySem.Challenge.rw_rg0009_01.row.prog w) ot nt ft) (lot : (ta == sysModules) = false) (hft : ft j = some (.ref tp)) (htp : (tp, tupObj r pt' tpt') ∈ news)
    (he : (e, instObj 77 de) ∈ news) (hde : (de, oe) ∈ news) (ae : Attrs 18 oe (at_ (entL "type" tk nm tn sv ln tl reg (.ref su) compl impl (.ref r) uq nb pa))) {t dsu dt' od : Addr} {osu ot' oo : Obj} {tj : Tok} (hsv : handedIn sv = true) 
    (m1 : (su, instObj 292 dsu) ∈ news) (m2 : (dsu, osu) ∈ news) (a1 : Attrs 2 osu (fun y => if y = "type" then some (.ref t) else none)) (m3 : (t, instObj 271 dt') ∈ news) (m4 : (dt', ot') ∈ news) (a2 : Attrs 40 ot' (at_ (tyL false true j tj od))) (m5 : (od, oo) ∈ news) (lod : (od == sysModules) = false)
    (B : Below A₀ base outer h₀) (F : Fr h₀ L s.heap m) (KX : (Mine.K w.params).In h₀) (T : Top Mine.q0 (looseW Mine.q0 [Str.ofString "Limits"]) mean mg mb h₀) (hk : cs.kind = .function) (N : News h₀ L s.heap news) (hd : dp + 40 < recursionLimit) (hu : un + 800 < cLine)
    (hret : ∀ h' tks, Fr h₀ L h' m → News h₀ L h' news → Q .none { s with heap := h', toks := tks }) :
    wpAny (model PySem.Challenge.rw_rg0009_01.row.prog w) (ktrTop dp un gd cn cs L a ccd cl outer) (call (.ref 197) [.ref e]) Q E s := by
  (try w_top off); revert KX; k_fill; intro KX
  refine wpAny_call ?_
  (k_extra "ENTER")
  k_steps
  all_goals exact hret _ _ (by k_asm) (by ktr_rel)

theorem made_ttf {w : World} {mean : ExcName → Option Value} {mg mb : Str → Option Value}
    {dp un : Nat} {gd : Option (List Code)} {cn : Str} {cs : Scope} {a : Addr} {ccd : Value} {cl : List (Str × Addr)} {outer : List Env} {A₀ : Around} {base h₀ : Heap} {L : Addr} {m : Str → Option Value} {news : List (Addr × Obj)} {s : Shared}
    {Q E : Value → Shared → Prop} {rr drr : Addr} {odrr : Obj} {tkrr tMr tnurr tlvrr tptrr : Tok} {parr : Value} {ptrr : Str} {Mr nurr lvrr : Int} {rnrr rorr ca ta : Addr} {r dr : Addr} {odr : Obj} {kr : Str} {tkr tM1 tnu tlv tpt : Tok} {par : Value} {M1 nu lv : Int} {pt : Str} {rn ro rc rh : Addr} {e de : Addr} {oe : Obj} {nm : Str} {tk tn : Tok} {sv : Value} {ln : Int} {tl : Tok} {reg : Value} {compl impl : Bool} {uq nb pa : Value} {su : Addr} {j : Int} {ot : Obj} {nt : Nat} {ft : Int → Option Value} {tp : Addr} {pt' : Str} {tpt' : Tok}
    (hr : (r, instObj 113 dr) ∈ news) (hdr : (dr, odr) ∈ news) (ar : Attrs 16 odr (at_ (regL kr tkr par rr M1 tM1 nu tnu lv tlv pt tpt rn ro rc rh)))
    (hrr : (rr, instObj 113 drr) ∈ news) (hdrr : (drr, odrr) ∈ news) (arr : Attrs 16 odrr (at_ (regL "root" tkrr parr rr Mr tMr nurr tnurr lvrr tlvrr ptrr tptrr rnrr rorr ca ta))) (hot : (ta, ot) ∈ news) (dt : Dic (intKind PySem.Challenge.rw_rg0009_01.row.prog w) ot nt ft) (lot : (ta == sysModules) = false) (hft : ft j = some (.ref tp)) (htp : (tp, tupObj r pt' tpt') ∈ news)
    (he : (e, instObj 77 de) ∈ news) (hde : (de, oe) ∈ news) (ae : Attrs 18 oe (at_ (entL "type" tk nm tn sv ln tl reg (.ref su) compl impl (.ref r) uq nb pa))) {t dsu dt' od : Addr} {osu ot' oo : Obj} {tj : Tok} (hsv : handedIn sv = true) 
    (m1 : (su, instObj 292 dsu) ∈ news) (m2 : (dsu, osu) ∈ news) (a1 : Attrs 2 osu (fun y => if y = "type" then some (.ref t) else none)) (m3 : (t, instObj 271 dt') ∈ news) (m4 : (dt', ot') ∈ news) (a2 : Attrs 40 ot' (at_ (tyL true true j tj od))) (m5 : (od, oo) ∈ news) (lod : (od == sysModules) = false)
    (B : Below A₀ base outer h₀) (F : Fr h₀ L s.heap m) (KX : (Mine.K w.params).In h₀) (T : Top Mine.q0 (looseW Mine.q0 [Str.ofString "Limits"]) mean mg mb h₀) (hk : cs.kind = .function) (N : News h₀ L s.heap news) (hd : dp + 40 < recursionLimit) (hu : un + 800 < cLine)
    (hret : ∀ h' tks, Fr h₀ L h' m → News h₀ L h' news → Q .none { s with heap := h', toks := tks }) :
    wpAny (model PySem.Challenge.rw_rg0009_01.row.prog w) (ktrTop dp un gd cn cs L a ccd cl outer) (call (.ref 197) [.ref e]) Q E s := by
  (try w_top off); revert KX; k_fill; intro KX
  refine wpAny_call ?_
  (k_extra "ENTER")
  k_steps
  all_goals exact hret _ _ (by k_asm) (by ktr_rel)

theorem made_tffn {w : World} {mean : ExcName → Option Value} {mg mb : Str → Option Value}
    {dp un : Nat} {gd : Option (List Code)} {cn : Str} {cs : Scope} {a : Addr} {ccd : Value} {cl : List (Str × Addr)} {outer : List Env} {A₀ : Around} {base h₀ : Heap} {L : Addr} {m : Str → Option Value} {news : List (Addr × Obj)} {s : Shared}
    {Q E : Value → Shared → Prop} {rr drr : Addr} {odrr : Obj} {tkrr tMr tnurr tlvrr tptrr : Tok} {parr : Value} {ptrr : Str} {Mr nurr lvrr : Int} {rnrr rorr ca ta : Addr} {r dr : Addr} {odr : Obj} {kr : Str} {tkr tM1 tnu tlv tpt : Tok} {par : Value} {M1 nu lv : Int} {pt : Str} {rn ro rc rh : Addr} {e de : Addr} {oe : Obj} {nm : Str} {tk tn : Tok} {sv : Value} {ln : Int} {tl : Tok} {reg : Value} {compl impl : Bool} {uq nb pa : Value} {su : Addr} {j : Int} {ot : Obj} {nt : Nat} {ft : Int → Option Value} {tp : Addr} {pt' : Str} {tpt' : Tok}
    (hr : (r, instObj 113 dr) ∈ news) (hdr : (dr, odr) ∈ news) (ar : Attrs 16 odr (at_ (regL kr tkr par rr M1 tM1 nu tnu lv tlv pt tpt rn ro rc rh)))
    (hrr : (rr, instObj 113 drr) ∈ news) (hdrr : (drr, odrr) ∈ news) (arr : Attrs 16 odrr (at_ (regL "root" tkrr parr rr Mr tMr nurr tnurr lvrr tlvrr ptrr tptrr rnrr rorr ca ta))) (hot : (ta, ot) ∈ news) (dt : Dic (intKind PySem.Challenge.rw_rg0009_01.row.prog w) ot nt ft) (lot : (ta == sysModules) = false) (hft : ft j = some (.ref tp)) (htp : (tp, tupObj r pt' tpt') ∈ news)
    (he : (e, instObj 77 de) ∈ news) (hde : (de, oe) ∈ news) (ae : Attrs 18 oe (at_ (entL "type" tk nm tn sv ln tl reg (.ref su) compl impl (.ref r) uq nb pa))) {t dsu dt' od : Addr} {osu ot' oo : Obj} {tj : Tok} (hsv : handedIn sv = true) 
    (m1 : (su, instObj 292 dsu) ∈ news) (m2 : (dsu, osu) ∈ news) (a1 : Attrs 2 osu (fun y => if y = "type" then some (.ref t) else none)) (m3 : (t, instObj 271 dt') ∈ news) (m4 : (dt', ot') ∈ news) (a2 : Attrs 40 ot' (at_ (tyL true false j tj od))) (m5 : (od, oo) ∈ news) (lod : (od == sysModules) = false) (doo : oo.IsDictOf (strKind PG w) [])
    (B : Below A₀ base outer h₀) (F : Fr h₀ L s.heap m) (KX : (Mine.K w.params).In h₀) (T : Top Mine.q0 (looseW Mine.q0 [Str.ofString "Limits"]) mean mg mb h₀) (hk : cs.kind = .function) (N : News h₀ L s.heap news) (hd : dp + 40 < recursionLimit) (hu : un + 800 < cLine)
    (hret : ∀ h' tks, Fr h₀ L h' m → News h₀ L h' news → Q .none { s with heap := h', toks := tks }) :
    wpAny (model PySem.Challenge.rw_rg0009_01.row.prog w) (ktrTop dp un gd cn cs L a ccd cl outer) (call (.ref 197) [.ref e]) Q E s := by
  have dfl := flat0 doo
  (try w_top off); revert KX; k_fill; intro KX
  refine wpAny_call ?_
  (k_extra "ENTER")
  k_steps
  all_goals exact hret _ _ (by k_asm) (by ktr_rel)

theorem made_tfft {w : World} {mean : ExcName → Option Value} {mg mb : Str → Option Value}
    {dp un : Nat} {gd : Option (List Code)} {cn : Str} {cs : Scope} {a : Addr} {ccd : Value} {cl : List (Str × Addr)} {outer : List Env} {A₀ : Around} {base h₀ : Heap} {L : Addr} {m : Str → Option Value} {news : List (Addr × Obj)} {s : Shared}
    {Q E : Value → Shared → Prop} {rr drr : Addr} {odrr : Obj} {tkrr tMr tnurr tlvrr tptrr : Tok} {parr : Value} {ptrr : Str} {Mr nurr lvrr : Int} {rnrr rorr ca ta : Addr} {r dr : Addr} {odr : Obj} {kr : Str} {tkr tM1 tnu tlv tpt : Tok} {par : Value} {M1 nu lv : Int} {pt : Str} {rn ro rc rh : Addr} {e de : Addr} {oe : Obj} {nm : Str} {tk tn : Tok} {sv : Value} {ln : Int} {tl : Tok} {reg : Value} {compl impl : Bool} {uq nb pa : Value} {su : Addr} {j : Int} {ot : Obj} {nt : Nat} {ft : Int → Option Value} {tp : Addr} {pt' : Str} {tpt' : Tok}
    (hr : (r, instObj 113 dr) ∈ news) (hdr : (dr, odr) ∈ news) (ar : Attrs 16 odr (at_ (regL kr tkr par rr M1 tM1 nu tnu lv tlv pt tpt rn ro rc rh)))
    (hrr : (rr, instObj 113 drr) ∈ news) (hdrr : (drr, odrr) ∈ news) (arr : Attrs 16 odrr (at_ (regL "root" tkrr parr rr Mr tMr nurr tnurr lvrr tlvrr ptrr tptrr rnrr rorr ca ta))) (hot : (ta, ot) ∈ news) (dt : Dic (intKind PySem.Challenge.rw_rg0009_01.row.prog w) ot nt ft) (lot : (ta == sysModules) = false) (hft : ft j = some (.ref tp)) (htp : (tp, tupObj r pt' tpt') ∈ news)
    (he : (e, instObj 77 de) ∈ news) (hde : (de, oe) ∈ news) (ae : Attrs 18 oe (at_ (entL "type" tk nm tn sv ln tl reg (.ref su) compl impl (.ref r) uq nb pa))) {t0 : Tok} {t dsu dt' od : Addr} {osu ot' oo : Obj} {tj : Tok} (hsv : handedIn sv = true) 
    (m1 : (su, instObj 292 dsu) ∈ news) (m2 : (dsu, osu) ∈ news) (a1 : Attrs 2 osu (fun y => if y = "type" then some (.ref t) else none)) (m3 : (t, instObj 271 dt') ∈ news) (m4 : (dt', ot') ∈ news) (a2 : Attrs 40 ot' (at_ (tyL true false j tj od))) (m5 : (od, oo) ∈ news) (lod : (od == sysModules) = false) (doo : oo.IsDictOf (strKind PG w) [(Str.ofString "f inself", .str (Str.ofString "f.1") t0)])
    (B : Below A₀ base outer h₀) (F : Fr h₀ L s.heap m) (KX : (Mine.K w.params).In h₀) (T : Top Mine.q0 (looseW Mine.q0 [Str.ofString "Limits"]) mean mg mb h₀) (hk : cs.kind = .function) (N : News h₀ L s.heap news) (hd : dp + 40 < recursionLimit) (hu : un + 800 < cLine)
    (hret : ∀ h' tks, Fr h₀ L h' m → News h₀ L h' news → Q .none { s with heap := h', toks := tks }) :
    wpAny (model PySem.Challenge.rw_rg0009_01.row.prog w) (ktrTop dp un gd cn cs L a ccd cl outer) (call (.ref 197) [.ref e]) Q E s := by
  have dfl := flat1 doo
  (try w_top off); revert KX; k_fill; intro KX
  refine wpAny_call ?_
  (k_extra "ENTER")
  k_steps
  all_goals exact hret _ _ (by k_asm) (by ktr_rel)

theorem made_tffo {w : World} {mean : ExcName → Option Value} {mg mb : Str → Option Value}
    {dp un : Nat} {gd : Option (List Code)} {cn : Str} {cs : Scope} {a : Addr} {ccd : Value} {cl : List (Str × Addr)} {outer : List Env} {A₀ : Around} {base h₀ : Heap} {L : Addr} {m : Str → Option Value} {news : List (Addr × Obj)} {s : Shared}
    {Q E : Value → Shared → Prop} {rr drr : Addr} {odrr : Obj} {tkrr tMr tnurr tlvrr tptrr : Tok} {parr : Value} {ptrr : Str} {Mr nurr lvrr : Int} {rnrr rorr ca ta : Addr} {r dr : Addr} {odr : Obj} {kr : Str} {tkr tM1 tnu tlv tpt : Tok} {par : Value} {M1 nu lv : Int} {pt : Str} {rn ro rc rh : Addr} {e de : Addr} {oe : Obj} {nm : Str} {tk tn : Tok} {sv : Value} {ln : Int} {tl : Tok} {reg : Value} {compl impl : Bool} {uq nb pa : Value} {su : Addr} {j : Int} {ot : Obj} {nt : Nat} {ft : Int → Option Value} {tp : Addr} {pt' : Str} {tpt' : Tok}
    (hr : (r, instObj 113 dr) ∈ news) (hdr : (dr, odr) ∈ news) (ar : Attrs 16 odr (at_ (regL kr tkr par rr M1 tM1 nu tnu lv tlv pt tpt rn ro rc rh)))
    (hrr : (rr, instObj 113 drr) ∈ news) (hdrr : (drr, odrr) ∈ news) (arr : Attrs 16 odrr (at_ (regL "root" tkrr parr rr Mr tMr nurr tnurr lvrr tlvrr ptrr tptrr rnrr rorr ca ta))) (hot : (ta, ot) ∈ news) (dt : Dic (intKind PySem.Challenge.rw_rg0009_01.row.prog w) ot nt ft) (lot : (ta == sysModules) = false) (hft : ft j = some (.ref tp)) (htp : (tp, tupObj r pt' tpt') ∈ news)
    (he : (e, instObj 77 de) ∈ news) (hde : (de, oe) ∈ news) (ae : Attrs 18 oe (at_ (entL "type" tk nm tn sv ln tl reg (.ref su) compl impl (.ref r) uq nb pa))) {t0 : Tok} {t dsu dt' od : Addr} {osu ot' oo : Obj} {tj : Tok} (hsv : handedIn sv = true) 
    (m1 : (su, instObj 292 dsu) ∈ news) (m2 : (dsu, osu) ∈ news) (a1 : Attrs 2 osu (fun y => if y = "type" then some (.ref t) else none)) (m3 : (t, instObj 271 dt') ∈ news) (m4 : (dt', ot') ∈ news) (a2 : Attrs 40 ot' (at_ (tyL true false j tj od))) (m5 : (od, oo) ∈ news) (lod : (od == sysModules) = false) (doo : oo.IsDictOf (strKind PG w) [(Str.ofString "f inself", .str (Str.ofString "") t0)])
    (B : Below A₀ base outer h₀) (F : Fr h₀ L s.heap m) (KX : (Mine.K w.params).In h₀) (T : Top Mine.q0 (looseW Mine.q0 [Str.ofString "Limits"]) mean mg mb h₀) (hk : cs.kind = .function) (N : News h₀ L s.heap news) (hd : dp + 40 < recursionLimit) (hu : un + 800 < cLine)
    (hexc : ∀ e g h' tks, Fr h₀ L g m → g.UpToSlots h' → RaisedM base (envX cn cs L a ccd cl :: outer) e 51 h' → E (.ref e) { s with heap := h', toks := tks }) :
    wpAny (model PySem.Challenge.rw_rg0009_01.row.prog w) (ktrTop dp un gd cn cs L a ccd cl outer) (call (.ref 197) [.ref e]) Q E s := by
  have dfl := flat1 doo
  (try w_top off); revert KX; k_fill; intro KX
  refine wpAny_call ?_
  (k_extra "ENTER")
  k_steps
  all_goals exact hexc _ _ _ _ (by assumption) (by assumption) (by assumption)

theorem made_c {w : World} {mean : ExcName → Option Value} {mg mb : Str → Option Value}
    {dp un : Nat} {gd : Option (List Code)} {cn : Str} {cs : Scope} {a : Addr} {ccd : Value} {cl : List (Str × Addr)} {outer : List Env} {A₀ : Around} {base h₀ : Heap} {L : Addr} {m : Str → Option Value} {news : List (Addr × Obj)} {s : Shared}
    {Q E : Value → Shared → Prop} {rr drr : Addr} {odrr : Obj} {tkrr tMr tnurr tlvrr tptrr : Tok} {parr : Value} {ptrr : Str} {Mr nurr lvrr : Int} {rnrr rorr ca ta : Addr} {r dr : Addr} {odr : Obj} {kr : Str} {tkr tM1 tnu tlv tpt : Tok} {par : Value} {M1 nu lv : Int} {pt : Str} {rn ro rc rh : Addr} {e de : Addr} {oe : Obj} {nm : Str} {tk tn : Tok} {sv : Value} {ln : Int} {tl : Tok} {reg full : Value} {compl impl : Bool} {uq nb pa : Value} {su : Addr} {j : Int} {ot : Obj} {nt : Nat} {ft : Int → Option Value} {tp : Addr} {pt' : Str} {tpt' : Tok}
    (hr : (r, instObj 113 dr) ∈ news) (hdr : (dr, odr) ∈ news) (ar : Attrs 16 odr (at_ (regL kr tkr par rr M1 tM1 nu tnu lv tlv pt tpt rn ro rc rh)))
    (hrr : (rr, instObj 113 drr) ∈ news) (hdrr : (drr, odrr) ∈ news) (arr : Attrs 16 odrr (at_ (regL "root" tkrr parr rr Mr tMr nurr tnurr lvrr tlvrr ptrr tptrr rnrr rorr ca ta))) (hot : (ta, ot) ∈ news) (dt : Dic (intKind PySem.Challenge.rw_rg0009_01.row.prog w) ot nt ft) (lot : (ta == sysModules) = false) (hft : ft j = some (.ref tp)) (htp : (tp, tupObj r pt' tpt') ∈ news)
    (he : (e, instObj 77 de) ∈ news) (hde : (de, oe) ∈ news) (ae : Attrs 18 oe (at_ (entL "type" tk nm tn sv ln tl reg full compl impl (.ref r) uq nb pa))) {tg ab bad : Bool} (hsu : sv = .ref su ∧ full = .none ∨ full = .ref su) (hsv : handedIn sv = true) (ty : TyAt w news su tg ab bad j)
    (B : Below A₀ base outer h₀) (F : Fr h₀ L s.heap m) (KX : (Mine.K w.params).In h₀) (T : Top Mine.q0 (looseW Mine.q0 [Str.ofString "Limits"]) mean mg mb h₀) (hk : cs.kind = .function) (N : News h₀ L s.heap news) (hd : dp + 40 < recursionLimit) (hu : un + 800 < cLine)
    (hret : (!tg || ab || !bad) = true → ∀ h' tks, Fr h₀ L h' m → News h₀ L h' news → Q .none { s with heap := h', toks := tks })
    (hexc : (!tg || ab || !bad) = false → ∀ e g h' tks, Fr h₀ L g m → g.UpToSlots h' → RaisedM base (envX cn cs L a ccd cl :: outer) e 51 h' → E (.ref e) { s with heap := h', toks := tks }) :
    wpAny (model PySem.Challenge.rw_rg0009_01.row.prog w) (ktrTop dp un gd cn cs L a ccd cl outer) (call (.ref 197) [.ref e]) Q E s := by
  obtain ⟨t, dsu, osu, dt', ot', od, oo, tj, m1, m2, a1, m3, m4, a2, m5, lod, ops⟩ := ty
  rcases hsu with ⟨rfl, rfl⟩ | rfl
  · cases tg <;> cases ab
    · exact made_ffs hr hdr ar hrr hdrr arr hot dt lot hft htp he hde ae m1 m2 a1 m3 m4 a2 m5 lod B F KX T hk N hd hu (hret rfl)
    · exact made_fts hr hdr ar hrr hdrr arr hot dt lot hft htp he hde ae m1 m2 a1 m3 m4 a2 m5 lod B F KX T hk N hd hu (hret rfl)
    · rcases ops with doo | @⟨t0, doo⟩ | @⟨t0, doo⟩
      · exact made_tfsn hr hdr ar hrr hdrr arr hot dt lot hft htp he hde ae m1 m2 a1 m3 m4 a2 m5 lod doo B F KX T hk N hd hu (hret rfl)
      · exact made_tfst hr hdr ar hrr hdrr arr hot dt lot hft htp he hde ae m1 m2 a1 m3 m4 a2 m5 lod doo B F KX T hk N hd hu (hret rfl)
      · exact made_tfso hr hdr ar hrr hdrr arr hot dt lot hft htp he hde ae m1 m2 a1 m3 m4 a2 m5 lod doo B F KX T hk N hd hu (hexc rfl)
    · exact made_tts hr hdr ar hrr hdrr arr hot dt lot hft htp he hde ae m1 m2 a1 m3 m4 a2 m5 lod B F KX T hk N hd hu (hret rfl)
  · cases tg <;> cases ab
    · exact made_fff hr hdr ar hrr hdrr arr hot dt lot hft htp he hde ae hsv m1 m2 a1 m3 m4 a2 m5 lod B F KX T hk N hd hu (hret rfl)
    · exact made_ftf hr hdr ar hrr hdrr arr hot dt lot hft htp he hde ae hsv m1 m2 a1 m3 m4 a2 m5 lod B F KX T hk N hd hu (hret rfl)
    · rcases ops with doo | @⟨t0, doo⟩ | @⟨t0, doo⟩
      · exact made_tffn hr hdr ar hrr hdrr arr hot dt lot hft htp he hde ae hsv m1 m2 a1 m3 m4 a2 m5 lod doo B F KX T hk N hd hu (hret rfl)
      · exact made_tfft hr hdr ar hrr hdrr arr hot dt lot hft htp he hde ae hsv m1 m2 a1 m3 m4 a2 m5 lod doo B F KX T hk N hd hu (hret rfl)
      · exact made_tffo hr hdr ar hrr hdrr arr hot dt lot hft htp he hde ae hsv m1 m2 a1 m3 m4 a2 m5 lod doo B F KX T hk N hd hu (hexc rfl)
    · exact made_ttf hr hdr ar hrr hdrr arr hot dt lot hft htp he hde ae hsv m1 m2 a1 m3 m4 a2 m5 lod B F KX T hk N hd hu (hret rfl)

end Mine
end
section
open PySem PySem.W PyProof.Rows
namespace Mine
theorem ln25 : True := by
  k_with_none
  k_with "ENTER" => (first | (refine' code_def ?zz351xk1 ?zz351xk2 ?zz351xk3 ?zz351xk4 ?zz351xk5 ?zz351xkA ?zz351xkF ?zz351xkK ?zz351xk6 ?zz351xk7 ?zz351xk8 ?zz351xk9 ?zz351xkB ?_ ?zz351xc2 ?zz351xc3 ?zz351xc4 ?zz351xc5; (case zz351xkA => exact rfl); (case zz351xkF => exact rfl); (case zz351xkK => first | exact rfl | assumption); (case zz351xk1 => k_asm); (case zz351xk2 => k_asm); (case zz351xk3 => k_asm); (case zz351xk4 => k_asm); (case zz351xk5 => k_asm); (case zz351xk6 => k_is); (case zz351xk7 => k_is); (case zz351xk8 => ktr_room); (case zz351xk9 => first | exact BindsTo.of_eq (binds := []) rfl | exact BindsTo.of_eq (binds := [(_, _)]) rfl | exact BindsTo.of_eq (binds := [(_, _), (_, _)]) rfl | exact BindsTo.of_eq (binds := [(_, _), (_, _), (_, _)]) rfl | exact BindsTo.of_eq (binds := [(_, _), (_, _), (_, _), (_, _)]) rfl | exact BindsTo.of_eq (binds := [(_, _), (_, _), (_, _), (_, _), (_, _)]) rfl | exact BindsTo.of_eq (binds := [(_, _), (_, _), (_, _), (_, _), (_, _), (_, _)]) rfl | exact BindsTo.of_eq (binds := [(_, _), (_, _), (_, _), (_, _), (_, _), (_, _), (_, _)]) rfl | exact BindsTo.of_eq (binds := [(_, _), (_, _), (_, _), (_, _), (_, _), (_, _), (_, _), (_, _)]) rfl | exact BindsTo.of_eq (binds := [(_, _), (_, _), (_, _), (_, _), (_, _), (_, _), (_, _), (_, _), (_, _)]) rfl | exact BindsTo.of_eq (binds := [(_, _), (_, _), (_, _), (_, _), (_, _), (_, _), (_, _), (_, _), (_, _), (_, _)]) rfl | exact binds_K (by k_in) rfl (by k_is) rfl rfl rfl); (case zz351xc5 => decide); (case zz351xkB => exact locs rfl); (case zz351xc2 => exact rfl); (case zz351xc3 => exact rfl); (case zz351xc4 => exact rfl); k_whole; intro g' L' h' FG' F' N' B' X' T'; (try dsimp only); (try k_fold)) | (refine' code_defC ?zz351xk1 ?zz351xk2 ?zz351xk3 ?zz351xk4 ?zz351xk5 ?zz351xkA ?zz351xkF ?zz351xkK ?zz351xk6 ?zz351xk7 ?zz351xk8 ?zz351xk9 ?zz351xkB ?zz351xkD ?_ ?zz351xc2 ?zz351xc3 ?zz351xc4; (case zz351xkA => exact rfl); (case zz351xkF => exact rfl); (case zz351xkK => first | exact rfl | assumption); (case zz351xk1 => k_asm); (case zz351xk2 => k_asm); (case zz351xk3 => k_asm); (case zz351xk4 => k_asm); (case zz351xk5 => k_asm); (case zz351xk6 => k_is); (case zz351xk7 => k_is); (case zz351xk8 => ktr_room); (case zz351xk9 => first | exact BindsTo.of_eq (binds := []) rfl | exact BindsTo.of_eq (binds := [(_, _)]) rfl | exact BindsTo.of_eq (binds := [(_, _), (_, _)]) rfl | exact BindsTo.of_eq (binds := [(_, _), (_, _), (_, _)]) rfl | exact BindsTo.of_eq (binds := [(_, _), (_, _), (_, _), (_, _)]) rfl | exact BindsTo.of_eq (binds := [(_, _), (_, _), (_, _), (_, _), (_, _)]) rfl | exact BindsTo.of_eq (binds := [(_, _), (_, _), (_, _), (_, _), (_, _), (_, _)]) rfl | exact BindsTo.of_eq (binds := [(_, _), (_, _), (_, _), (_, _), (_, _), (_, _), (_, _)]) rfl | exact BindsTo.of_eq (binds := [(_, _), (_, _), (_, _), (_, _), (_, _), (_, _), (_, _), (_, _)]) rfl | exact BindsTo.of_eq (binds := [(_, _), (_, _), (_, _), (_, _), (_, _), (_, _), (_, _), (_, _), (_, _)]) rfl | exact BindsTo.of_eq (binds := [(_, _), (_, _), (_, _), (_, _), (_, _), (_, _), (_, _), (_, _), (_, _), (_, _)]) rfl | exact binds_K (by k_in) rfl (by k_is) rfl rfl rfl); (case zz351xkB => exact rfl); (case zz351xkD => decide +kernel); (case zz351xc2 => exact rfl); (case zz351xc3 => exact rfl); (case zz351xc4 => exact rfl); k_whole; intro g' L' h' tk' cells' FG' F' N' Y' B' X' T' l1; k_cells Y'; (try simp only [List.cons_append, List.nil_append] at N'); (try dsimp only); (try k_fold)))
  k_with "call ref" => (k_here; k_dflt (refine' mk_inst ?zz337xk1 ?zz337xk2 ?zz337xk3 ?zz337xk4 ?zz337xk5 ?zz337xk6 ?_; (case zz337xk1 => k_asm); (case zz337xk2 => k_asm); (case zz337xk3 => k_asm); (case zz337xk4 => k_is); (case zz337xk5 => k_is); (case zz337xk6 => k_is); k_whole; intro x' d' o' h' F' N' a' l1 l2; (have nd' := nd_cons2 l1 l2 (by assumption)); (try k_sweep); (k_extra "ENTER")))
  k_with "setAttr ref" => (k_here; k_dflt (refine' at_set ?zz338xk1 ?zz338xk2 ?zz338xk3 ?zz338xk4 ?zz338xk5 ?zz338xk6 ?zz338xk7 ?zz338xk8 ?zz338xk9 ?zz338xk10 ?zz338xk11 ?_; (case zz338xk1 => k_asm); (case zz338xk2 => k_asm); (case zz338xk3 => k_asm); (case zz338xk4 => k_mem); (case zz338xk5 => k_updF); (case zz338xk6 => assumption); (case zz338xk7 => k_is); (case zz338xk8 => k_is); (case zz338xk9 => k_is); (case zz338xk10 => k_is); (case zz338xk11 => exact Nat.le_of_ble_eq_true rfl); k_whole; intro h' o' F' N' a'; (try dsimp only at N' a' F'); (try k_sweep)))
  k_with "setAttr ref" => (k_here; k_dflt (refine' at_again ?zz339xk1 ?zz339xk2 ?zz339xk3 ?zz339xk4 ?zz339xk5 ?zz339xk6 ?zz339xk0 ?zz339xk7 ?zz339xk8 ?zz339xk9 ?zz339xk10 ?zz339xk11 ?_; (case zz339xk1 => k_asm); (case zz339xk2 => k_asm); (case zz339xk3 => k_asm); (case zz339xk4 => k_mem); (case zz339xk5 => k_updF); (case zz339xk6 => assumption); (case zz339xk0 => first | exact rfl | assumption); (case zz339xk7 => k_is); (case zz339xk8 => k_is); (case zz339xk9 => k_is); (case zz339xk10 => k_is); (case zz339xk11 => exact Nat.le_of_ble_eq_true rfl); k_whole; intro h' o' F' N' a'; (try dsimp only at N' a' F'); (try k_sweep)))
  k_with "getAttr ref" => (k_here; k_dflt (refine' at_get ?zz340xk1 ?zz340xk2 ?zz340xk3 ?zz340xk4 ?zz340xk5 ?zz340xk6 ?zz340xk7 ?zz340xk8 ?zz340xk9 ?zz340xk10 ?zz340xk11 ?zz340xk12 ?_; (case zz340xk1 => k_asm); (case zz340xk2 => k_asm); (case zz340xk3 => k_asm); (case zz340xk4 => k_mem); (case zz340xk5 => k_mem); (case zz340xk6 => assumption); (case zz340xk7 => first | exact rfl | assumption); (case zz340xk8 => k_is); (case zz340xk9 => k_is); (case zz340xk10 => k_is); (case zz340xk11 => k_is); (case zz340xk12 => k_handed); k_whole))
  k_with "call type:list" => (k_here; (with_reducible show wpAny _ _ (call (Value.type _) [Value.ref _]) _ _ _); (with_unfolding_all refine' list_copyK ?zz341xk1 ?zz341xk2 ?zz341xk3 ?_ ?zz341xz; (case zz341xk1 => k_asm); (case zz341xk2 => k_asm); (case zz341xk3 => exact News.isList (d := none) (sl := #[]) (by k_asm) (by k_mem)); (case zz341xz => size_fits); k_whole); intro D' c' h' F' N' l1; (have nd' := nd_cons l1 (by assumption)); (try k_sweep))
  k_with "compareOp Eq ref ref" => (k_here; (with_reducible show wpAny _ _ (compareOp CmpOp.Eq (Value.ref _) (Value.ref _)) _ _ _); k_dflt (refine' ke_eq_ints (xs := []) (ys := []) ?zz342xa ?zz342xb .nil .nil ?zz342xu ?_; (case zz342xa => exact News.isList (d := none) (sl := #[]) (items := #[]) (by k_asm) (by k_mem)); (case zz342xb => exact News.isList (d := none) (sl := #[]) (items := #[]) (by k_asm) (by k_mem)); (case zz342xu => ktr_units); k_whole))
  k_with "exec Raise some none" => (k_here; k_dflt (refine' raise_own ?zz343xhh ?_; (case zz343xhh => exact rfl); k_whole))
  k_with "Throws" => (refine' Throws.intro (B := "Exception") ?zz344xF ?zz344xX ?zz344xN ?zz344xm ?zz344xc ?zz344xu ?zz344xv ?_; (case zz344xF => k_asm); (case zz344xX => k_asm); (case zz344xN => k_asm); (case zz344xm => k_mem); (case zz344xc => k_is); (case zz344xu => exact ⟨by decide, by decide, by decide, by decide⟩); (case zz344xv => first | rfl | assumption); (try dsimp only))
  k_with "leaving ref" => (k_here; first
  | (refine' leave_first ?zz345xk1 ?zz345xk2 ?zz345xk3 ?zz345xk4 ?zz345xk5 ?zz345xk6 ?_; (case zz345xk2 => assumption); (case zz345xk1 => assumption); (case zz345xk3 => k_asm); (case zz345xk4 => k_mem); (case zz345xk5 => assumption); (case zz345xk6 => assumption); k_whole; intro h' R' U'; (try dsimp only at R' U' ⊢))
  | (refine' leave_on ?zz345xk1 ?zz345xk2 ?zz345xk3 ?zz345xk4 ?_; (case zz345xk3 => assumption); (case zz345xk1 => assumption); (case zz345xk4 => assumption); (case zz345xk2 => assumption); k_whole; intro h' R' U'; (try dsimp only at R' U' ⊢)))
  k_with "compareOp NotEq ref ref" => (k_here; (with_reducible show wpAny _ _ (compareOp CmpOp.NotEq (Value.ref _) (Value.ref _)) _ _ _); k_dflt (refine ne_dataH (by ke_read) (by ke_read) (by ke_shaped) (by ke_shaped) (by ktr_units) ?_); ke_norm)
  k_with "exec For" => (k_here; k_dflt (refine' For_own ?zz347xF ?zz347xhx ?zz347xhp ?_ ?zz347xhs ?zz347xhE; (case zz347xF => k_asm); (case zz347xhx => exact rfl); (case zz347xhp => exact rfl); (case zz347xhs => intro _; exact rfl); (case zz347xhE => first | passes_own | (subst ek; passes_own) | (unfold ek; passes_own)); k_whole))
  trivial


theorem made_ok {w : World} {mean : ExcName → Option Value} {mg mb : Str → Option Value}
    {dp un : Nat} {gd : Option (List Code)} {cn : Str} {cs : Scope} {a : Addr} {ccd : Value} {cl : List (Str × Addr)} {outer : List Env} {A₀ : Around} {base h₀ : Heap} {L : Addr} {m : Str → Option Value} {news : List (Addr × Obj)} {s : Shared}
    {Q E : Value → Shared → Prop} {rr drr : Addr} {odrr : Obj} {tkrr tMr tnurr tlvrr tptrr : Tok} {parr : Value} {ptrr : Str} {Mr nurr lvrr : Int} {rnrr rorr ca ta : Addr} {r dr : Addr} {odr : Obj} {kr : Str} {tkr tM1 tnu tlv tpt : Tok} {par : Value} {M1 nu lv : Int} {pt : Str} {rn ro rc rh : Addr} {e de : Addr} {oe : Obj} {nm : Str} {tk tn : Tok} {sv : Value} {ln : Int} {tl : Tok} {reg full : Value} {compl impl : Bool} {uq nb pa : Value} {su : Addr} {j : Int} {ot : Obj} {nt : Nat} {ft : Int → Option Value} {tp : Addr} {pt' : Str} {tpt' : Tok}
    (hr : (r, instObj 113 dr) ∈ news) (hdr : (dr, odr) ∈ news) (ar : Attrs 16 odr (at_ (regL kr tkr par rr M1 tM1 nu tnu lv tlv pt tpt rn ro rc rh)))
    (hrr : (rr, instObj 113 drr) ∈ news) (hdrr : (drr, odrr) ∈ news) (arr : Attrs 16 odrr (at_ (regL "root" tkrr parr rr Mr tMr nurr tnurr lvrr tlvrr ptrr tptrr rnrr rorr ca ta))) (hot : (ta, ot) ∈ news) (dt : Dic (intKind PySem.Challenge.rw_rg0009_01.row.prog w) ot nt ft) (lot : (ta == sysModules) = false) (hft : ft j = some (.ref tp)) (htp : (tp, tupObj r pt' tpt') ∈ news)
    (he : (e, instObj 77 de) ∈ news) (hde : (de, oe) ∈ news) (ae : Attrs 18 oe (at_ (entL "type" tk nm tn sv ln tl reg full compl impl (.ref r) uq nb pa))) {tg ab bad : Bool} (hsu : sv = .ref su ∧ full = .none ∨ full = .ref su) (hsv : handedIn sv = true) (ty : TyAt w news su tg ab bad j) (hb : (!tg || ab || !bad) = true)
    (B : Below A₀ base outer h₀) (F : Fr h₀ L s.heap m) (KX : (Mine.K w.params).In h₀) (T : Top Mine.q0 (looseW Mine.q0 [Str.ofString "Limits"]) mean mg mb h₀) (hk : cs.kind = .function) (N : News h₀ L s.heap news) (hd : dp + 40 < recursionLimit) (hu : un + 800 < cLine)
    (hret : ∀ h' tks, Fr h₀ L h' m → News h₀ L h' news → Q .none { s with heap := h', toks := tks }) :
    wpAny (model PySem.Challenge.rw_rg0009_01.row.prog w) (ktrTop dp un gd cn cs L a ccd cl outer) (call (.ref 197) [.ref e]) Q E s := made_c hr hdr ar hrr hdrr arr hot dt lot hft htp he hde ae hsu hsv ty B F KX T hk N hd hu (fun _ => hret) (fun e => by rw [hb] at e; cases e)

theorem made_bad {w : World} {mean : ExcName → Option Value} {mg mb : Str → Option Value}
    {dp un : Nat} {gd : Option (List Code)} {cn : Str} {cs : Scope} {a : Addr} {ccd : Value} {cl : List (Str × Addr)} {outer : List Env} {A₀ : Around} {base h₀ : Heap} {L : Addr} {m : Str → Option Value} {news : List (Addr × Obj)} {s : Shared}
    {Q E : Value → Shared → Prop} {rr drr : Addr} {odrr : Obj} {tkrr tMr tnurr tlvrr tptrr : Tok} {parr : Value} {ptrr : Str} {Mr nurr lvrr : Int} {rnrr rorr ca ta : Addr} {r dr : Addr} {odr : Obj} {kr : Str} {tkr tM1 tnu tlv tpt : Tok} {par : Value} {M1 nu lv : Int} {pt : Str} {rn ro rc rh : Addr} {e de : Addr} {oe : Obj} {nm : Str} {tk tn : Tok} {sv : Value} {ln : Int} {tl : Tok} {reg full : Value} {compl impl : Bool} {uq nb pa : Value} {su : Addr} {j : Int} {ot : Obj} {nt : Nat} {ft : Int → Option Value} {tp : Addr} {pt' : Str} {tpt' : Tok}
    (hr : (r, instObj 113 dr) ∈ news) (hdr : (dr, odr) ∈ news) (ar : Attrs 16 odr (at_ (regL kr tkr par rr M1 tM1 nu tnu lv tlv pt tpt rn ro rc rh)))
    (hrr : (rr, instObj 113 drr) ∈ news) (hdrr : (drr, odrr) ∈ news) (arr : Attrs 16 odrr (at_ (regL "root" tkrr parr rr Mr tMr nurr tnurr lvrr tlvrr ptrr tptrr rnrr rorr ca ta))) (hot : (ta, ot) ∈ news) (dt : Dic (intKind PySem.Challenge.rw_rg0009_01.row.prog w) ot nt ft) (lot : (ta == sysModules) = false) (hft : ft j = some (.ref tp)) (htp : (tp, tupObj r pt' tpt') ∈ news)
    (he : (e, instObj 77 de) ∈ news) (hde : (de, oe) ∈ news) (ae : Attrs 18 oe (at_ (entL "type" tk nm tn sv ln tl reg full compl impl (.ref r) uq nb pa))) {tg ab bad : Bool} (hsu : sv = .ref su ∧ full = .none ∨ full = .ref su) (hsv : handedIn sv = true) (ty : TyAt w news su tg ab bad j) (hb : (!tg || ab || !bad) = false)
    (B : Below A₀ base outer h₀) (F : Fr h₀ L s.heap m) (KX : (Mine.K w.params).In h₀) (T : Top Mine.q0 (looseW Mine.q0 [Str.ofString "Limits"]) mean mg mb h₀) (hk : cs.kind = .function) (N : News h₀ L s.heap news) (hd : dp + 40 < recursionLimit) (hu : un + 800 < cLine)
    (hexc : ∀ e g h' tks, Fr h₀ L g m → g.UpToSlots h' → RaisedM base (envX cn cs L a ccd cl :: outer) e 51 h' → E (.ref e) { s with heap := h', toks := tks }) :
    wpAny (model PySem.Challenge.rw_rg0009_01.row.prog w) (ktrTop dp un gd cn cs L a ccd cl outer) (call (.ref 197) [.ref e]) Q E s := made_c hr hdr ar hrr hdrr arr hot dt lot hft htp he hde ae hsu hsv ty B F KX T hk N hd hu (fun e => by rw [hb] at e; cases e) (fun _ => hexc)

/-- what check_bodies does at regions of a kind -/
def BodiesC (w : World) (mean : ExcName → Option Value) (mg mb : Str → Option Value) (k u : Nat) (P : List (Addr × Obj) → (Int → Option Value) → Addr → Addr → Bool → Prop) : Prop :=
  ∀ {dp un : Nat} {gd : Option (List Code)} {cn : Str} {cs : Scope} {a : Addr} {ccd : Value} {cl : List (Str × Addr)} {outer : List Env} {A₀ : Around} {base h₀ : Heap} {L : Addr} {m : Str → Option Value} {news : List (Addr × Obj)} {s : Shared}
    {Q E : Value → Shared → Prop} {X news0 : List (Addr × Obj)} {sc ds : Addr} {osc : Obj} {ms : Str → Option Value} {sl : Int} {tsl : Tok} {rr drr : Addr} {odrr : Obj} {tkrr tMr tnurr tlvrr tptrr : Tok} {parr : Value} {ptrr : Str} {Mr nurr lvrr : Int} {rnrr rorr ca ta : Addr} {r : Addr} {b : Bool} {ot : Obj} {nt : Nat} {ft : Int → Option Value} (hP : P news0 ft rr r b) (hsub : ∀ p ∈ news0, p ∈ news) (hX : ∀ p ∈ (ds, osc) :: news, p ∈ X) (hsc : (sc, instObj 228 ds) ∈ news) (as : Attrs 16 osc ms) (as1 : ms (Str.ofString "line") = some (.int sl tsl))
    (hrr : (rr, instObj 113 drr) ∈ news) (hdrr : (drr, odrr) ∈ news) (arr : Attrs 16 odrr (at_ (regL "root" tkrr parr rr Mr tMr nurr tnurr lvrr tlvrr ptrr tptrr rnrr rorr ca ta))) (hot : (ta, ot) ∈ news) (dt : Dic (intKind PySem.Challenge.rw_rg0009_01.row.prog w) ot nt ft) (lot : (ta == sysModules) = false)
    (B : Below A₀ base outer h₀) (F : Fr h₀ L s.heap m) (KX : (Mine.K w.params).In h₀) (T : Top Mine.q0 (looseW Mine.q0 [Str.ofString "Limits"]) mean mg mb h₀) (hk : cs.kind = .function) (N : News h₀ L s.heap X) (nd : (((ds, osc) :: news).map Prod.fst).Nodup) (hd : dp + k < recursionLimit) (hu : un + u < cLine)
    (hret : b = true → ∀ h' tks, Fr h₀ L h' m → News h₀ L h' X → Q .none { s with heap := h', toks := tks })
    (hexc : b = false → ∀ e g h' tks, Fr h₀ L g m → g.UpToSlots h' → RaisedM base (envX cn cs L a ccd cl :: outer) e 51 h' → E (.ref e) { s with heap := h', toks := tks }),
    wpAny (model PySem.Challenge.rw_rg0009_01.row.prog w) (ktrTop dp un gd cn cs L a ccd cl outer) (call (.ref 204) [.ref sc, .ref r]) Q E s
theorem bodies_none {w : World} {mean : ExcName → Option Value} {mg mb : Str → Option Value} (k u : Nat) : BodiesC w mean mg mb k u fun _ _ _ _ _ => False := by
  intro dp un gd cn cs a ccd cl outer A₀ base h₀ L m news s Q E X news0 sc ds osc ms sl tsl rr drr odrr tkrr tMr tnurr tlvrr tptrr parr ptrr Mr nurr lvrr rnrr rorr ca ta r b ot nt ft hP
  exact hP.elim

theorem ln26 : True := by
  k_with "call ref" => (k_here; (with_reducible show wpAny _ _ (call (Value.ref 197) _ _) _ _ _); k_dflt (refine' made_ok ?zz348xq1 ?zz348xq2 ?zz348xq3 ?zz348xq4 ?zz348xq5 ?zz348xq6 ?zz348xq7 ?zz348xq8 ?zz348xq9 ?zz348xq10 ?zz348xq11 ?zz348xq12 ?zz348xq13 ?zz348xq14 ?zz348xq15 ?zz348xq16 ?zz348xq17 ?zz348xq18 ?zz348xB ?zz348xF ?zz348xKX ?zz348xT ?zz348xhk ?zz348xN ?zz348xhd ?zz348xhu ?_; (case zz348xB => k_asm); (case zz348xF => k_asm); (case zz348xKX => k_asm); (case zz348xT => k_asm); (case zz348xhk => first | exact rfl | assumption); (case zz348xN => k_asm); (case zz348xhd => ktr_room); (case zz348xhu => ktr_units); (case zz348xq12 => k_mem); (case zz348xq13 => k_mem); (case zz348xq14 => assumption); (case zz348xq15 => assumption); (case zz348xq16 => assumption); (case zz348xq17 => assumption); (case zz348xq18 => assumption); (case zz348xq1 => k_mem); (case zz348xq2 => k_mem); (case zz348xq3 => assumption); (case zz348xq4 => k_mem); (case zz348xq5 => k_mem); (case zz348xq6 => assumption); (case zz348xq7 => k_mem); (case zz348xq8 => assumption); (case zz348xq9 => assumption); (case zz348xq10 => assumption); (case zz348xq11 => k_mem); k_whole; intro h' tk' F' N'; (try dsimp only at *); (try k_sweep)))
  k_with "call ref" => (k_here; (with_reducible show wpAny _ _ (call (Value.ref 197) _ _) _ _ _); k_dflt (refine' made_bad ?zz349xq1 ?zz349xq2 ?zz349xq3 ?zz349xq4 ?zz349xq5 ?zz349xq6 ?zz349xq7 ?zz349xq8 ?zz349xq9 ?zz349xq10 ?zz349xq11 ?zz349xq12 ?zz349xq13 ?zz349xq14 ?zz349xq15 ?zz349xq16 ?zz349xq17 ?zz349xq18 ?zz349xB ?zz349xF ?zz349xKX ?zz349xT ?zz349xhk ?zz349xN ?zz349xhd ?zz349xhu ?_; (case zz349xB => k_asm); (case zz349xF => k_asm); (case zz349xKX => k_asm); (case zz349xT => k_asm); (case zz349xhk => first | exact rfl | assumption); (case zz349xN => k_asm); (case zz349xhd => ktr_room); (case zz349xhu => ktr_units); (case zz349xq12 => k_mem); (case zz349xq13 => k_mem); (case zz349xq14 => assumption); (case zz349xq15 => assumption); (case zz349xq16 => assumption); (case zz349xq17 => assumption); (case zz349xq18 => assumption); (case zz349xq1 => k_mem); (case zz349xq2 => k_mem); (case zz349xq3 => assumption); (case zz349xq4 => k_mem); (case zz349xq5 => k_mem); (case zz349xq6 => assumption); (case zz349xq7 => k_mem); (case zz349xq8 => assumption); (case zz349xq9 => assumption); (case zz349xq10 => assumption); (case zz349xq11 => k_mem); k_whole; intro e' g' h' tk' FG' U' R'; (try dsimp only at *); (try k_sweep)))
  k_with "call ref" => (k_here; (with_reducible show wpAny _ _ (call (Value.ref 211) _ _) _ _ _); k_dflt (refine' miss_c ?zz350xq1 ?zz350xq3 ?zz350xq4 ?zz350xq5 ?zz350xq6 ?zz350xq7 ?zz350xB ?zz350xF ?zz350xKX ?zz350xT ?zz350xhk ?zz350xN ?zz350xnd ?zz350xhd ?zz350xhu ?_; (case zz350xB => k_asm); (case zz350xF => k_asm); (case zz350xKX => k_asm); (case zz350xT => k_asm); (case zz350xhk => first | exact rfl | assumption); (case zz350xhd => ktr_room); (case zz350xhu => ktr_units); (case zz350xnd => assumption); (case zz350xq1 => k_mem); (case zz350xN => first | k_asm | exact News.sub (by k_asm) (by assumption) | exact News.sub2 (by k_asm) (by assumption)); (case zz350xq3 => assumption); (case zz350xq4 => first | exact rfl | assumption); (case zz350xq5 => k_mem); (case zz350xq6 => k_mem); (case zz350xq7 => assumption); k_whole; intro e' g' h' tk' FG' U' R'; (try dsimp only at *); (try k_sweep)))
  trivial



theorem bodies_step {P : List (Addr × Obj) → (Int → Option Value) → Addr → Addr → Bool → Prop} {w : World} {mean : ExcName → Option Value} {mg mb : Str → Option Value} {k u : Nat} (ih : BodiesC w mean mg mb k u P) (hk40 : 40 ≤ k) (hu8 : 800 ≤ u) :
    BodiesC w mean mg mb (k + 10) (u + 100) (RegW w P) := by
  intro dp un gd cn cs a ccd cl outer A₀ base h₀ L m news s Q E X news0 sc ds osc ms sl tsl rr drr odrr tkrr tMr tnurr tlvrr tptrr parr ptrr Mr nurr lvrr rnrr rorr ca ta r b ot nt ft hP hsub hX hsc as as1 hrr hdrr arr hot dt lot B F KX T hk N nd hd hu hret hexc
  obtain ⟨dr, odr, kr, tkr, par, M, tM, nu, tnu, lv, tlv, pt, tpt, rn, ro, rc, rh, co, es, hr0, hdr0, ar, hro0, hes, rfl⟩ := hP
  have toX : ∀ p ∈ news, p ∈ X := fun p hp => hX p (.tail _ hp)
  have hr : (r, instObj 113 dr) ∈ X := toX _ (hsub _ hr0)
  have hdr : (dr, odr) ∈ X := toX _ (hsub _ hdr0)
  have hro := toX _ (hsub _ hro0)
  (try w_top off); revert KX; k_fill; intro KX
  refine wpAny_call ?_
  (k_extra "ENTER")
  k_steps
  all_goals refine iter_ownI (vs := es.map fun p => Value.ref p.1) (fun i => ∀ k, k < i → ∀ p, es[k]? = some p → p.2 = true) rfl (by k_asm) (by k_asm) (by k_mem) (fun k hk => absurd hk (Nat.not_lt_zero _)) ?_ ?_
  · intro i v h tk' own hv hJ F₁ N₁
    obtain ⟨e, b', hp, rfl⟩ : ∃ e b', es[i]? = some (e, b') ∧ v = Value.ref e := by
      rw [List.getElem?_map] at hv
      cases q : es[i]? with
      | some p => rw [q] at hv; exact ⟨p.1, p.2, rfl, (Option.some.inj hv).symm⟩
      | none => rw [q] at hv; cases hv
    have hJ1 : b' = true → ∀ k, k < i + 1 → ∀ p, es[k]? = some p → p.2 = true := fun hb k hk p hp' => by
      rcases Nat.lt_succ_iff_lt_or_eq.mp hk with h1 | rfl
      · exact hJ k h1 p hp'
      · rw [hp] at hp'; cases hp'; exact hb
    have hfalse : b' = false → es.all (·.2) = false := fun hb => by
      rw [List.all_eq_false]; exact ⟨_, List.mem_of_getElem? hp, by simp [hb]⟩
    have hent : EntW w (P news0 ft rr) news0 ft r e b' := hes _ (List.mem_of_getElem? hp)
    clear hes hJ hp
    obtain ⟨Y, hY⟩ : ∃ Y, Y = own ++ X := ⟨_, rfl⟩
    have need : ∀ p ∈ own ++ X, p ∈ Y := fun p hp => by rw [hY]; exact hp
    have inY : ∀ p ∈ X, p ∈ Y := fun p hp => need p (List.mem_append_right _ hp)
    have toY : ∀ p ∈ news, p ∈ Y := fun p hp => inY p (toX p hp)
    have N₂ := N₁
    rw [← hY] at N₂
    clear N₁ hY
    obtain ⟨de, oe, kd, tk, nm, tn, sv, ln, tl, reg, full, compl, impl, uq, nb, pa, he0, hde0, ae, knd⟩ := hent
    have he1 := hsub _ he0; have hde1 := hsub _ hde0
    have he := toY _ he1; have hde := toY _ hde1
    have hr2 := inY _ hr; have hdr2 := inY _ hdr; have hrr2 := toY _ hrr; have hdrr2 := toY _ hdrr; have hot2 := toY _ hot
    have hX2 : ∀ p ∈ (ds, osc) :: news, p ∈ Y := fun p hp => inY p (hX p hp)
    cases knd with
    | impl =>
      k_steps
      all_goals first | exact TurnI.cont (hJ1 rfl) (by k_asm) (by k_asm) (fun p hp => by first | exact need p hp | exact .tail _ (need p hp)) (fun y hy => if_neg hy)
    | gen =>
      cases compl
      all_goals (k_steps)
      all_goals first | exact TurnI.next (hJ1 rfl) (by k_asm) (by k_asm) (fun p hp => by first | exact need p hp | exact .tail _ (need p hp)) (fun y hy => if_neg hy)
    | obj =>
      cases b' with
      | true =>
        k_steps
        all_goals first | exact TurnI.next (hJ1 rfl) (by k_asm) (by k_asm) (fun p hp => by first | exact need p hp | exact .tail _ (need p hp)) (fun y hy => if_neg hy)
      | false =>
        k_steps
        all_goals first | exact hexc (hfalse rfl) _ _ _ _ (by assumption) (by assumption) (by assumption)
    | @ty su full reg tg ab bad j tp pt' tpt' _ hsu hsv hrg ty hft htp0 =>
      have htp := toY _ (hsub _ htp0)
      have ty := ty.sub fun p hp => toY p (hsub p hp)
      cases hb : (!tg || ab || !bad) with
      | true =>
        k_steps
        all_goals first | exact TurnI.next (hJ1 hb) (by k_asm) (by k_asm) (fun p hp => by first | exact need p hp | exact .tail _ (need p hp)) (fun y hy => if_neg hy)
      | false =>
        k_steps
        all_goals first | exact hexc (hfalse hb) _ _ _ _ (by assumption) (by assumption) (by assumption)
    | @pkg _ _ r' compl b hP =>
      cases compl with
      | true =>
        k_steps
        all_goals first | exact TurnI.next (hJ1 (by simp)) (by k_asm) (by k_asm) (fun p hp => by first | exact need p hp | exact .tail _ (need p hp)) (fun y hy => if_neg hy)
      | false =>
        k_steps
        all_goals refine ih (news := news) hP hsub hX2 hsc as as1 hrr hdrr arr hot dt lot (by k_asm) (by k_asm) (by k_asm) (by k_asm) (by exact rfl) (by k_asm) nd (by ktr_room) (by ktr_units) ?_ ?_
        · intro hb h' tks' F' N'
          dsimp only
          k_steps
          all_goals first | exact TurnI.next (hJ1 (by rw [hb]; rfl)) (by k_asm) (by k_asm) (fun p hp => by first | exact need p hp | exact .tail _ (need p hp)) (fun y hy => if_neg hy)
        · intro hb e' g' h' tks' FG2 U2 R2
          dsimp only
          k_steps
          all_goals first | exact hexc (hfalse (by rw [hb]; rfl)) _ _ _ _ (by assumption) (by assumption) (by assumption)
  · intro m₁ h tk' hJ F₁ N₁
    k_steps
    all_goals first | exact hret (by
        rw [List.all_eq_true]
        intro p hp
        obtain ⟨k, hk, e⟩ := List.getElem_of_mem hp
        exact hJ k (by simpa using hk) p (by rw [← e]; exact List.getElem?_eq_getElem hk)) _ _ (by k_asm) (by ktr_rel)

end Mine
end
section
open PySem PySem.W PyProof.Rows
namespace Mine
theorem ln27 : True := by
  k_with_none
  k_with "ENTER" => (first | (refine' code_def ?zz359xk1 ?zz359xk2 ?zz359xk3 ?zz359xk4 ?zz359xk5 ?zz359xkA ?zz359xkF ?zz359xkK ?zz359xk6 ?zz359xk7 ?zz359xk8 ?zz359xk9 ?zz359xkB ?_ ?zz359xc2 ?zz359xc3 ?zz359xc4 ?zz359xc5; (case zz359xkA => exact rfl); (case zz359xkF => exact rfl); (case zz359xkK => first | exact rfl | assumption); (case zz359xk1 => k_asm); (case zz359xk2 => k_asm); (case zz359xk3 => k_asm); (case zz359xk4 => k_asm); (case zz359xk5 => k_asm); (case zz359xk6 => k_is); (case zz359xk7 => k_is); (case zz359xk8 => ktr_room); (case zz359xk9 => first | exact BindsTo.of_eq (binds := []) rfl | exact BindsTo.of_eq (binds := [(_, _)]) rfl | exact BindsTo.of_eq (binds := [(_, _), (_, _)]) rfl | exact BindsTo.of_eq (binds := [(_, _), (_, _), (_, _)]) rfl | exact BindsTo.of_eq (binds := [(_, _), (_, _), (_, _), (_, _)]) rfl | exact BindsTo.of_eq (binds := [(_, _), (_, _), (_, _), (_, _), (_, _)]) rfl | exact BindsTo.of_eq (binds := [(_, _), (_, _), (_, _), (_, _), (_, _), (_, _)]) rfl | exact BindsTo.of_eq (binds := [(_, _), (_, _), (_, _), (_, _), (_, _), (_, _), (_, _)]) rfl | exact BindsTo.of_eq (binds := [(_, _), (_, _), (_, _), (_, _), (_, _), (_, _), (_, _), (_, _)]) rfl | exact BindsTo.of_eq (binds := [(_, _), (_, _), (_, _), (_, _), (_, _), (_, _), (_, _), (_, _), (_, _)]) rfl | exact BindsTo.of_eq (binds := [(_, _), (_, _), (_, _), (_, _), (_, _), (_, _), (_, _), (_, _), (_, _), (_, _)]) rfl | exact binds_K (by k_in) rfl (by k_is) rfl rfl rfl); (case zz359xc5 => decide); (case zz359xkB => exact locs rfl); (case zz359xc2 => exact rfl); (case zz359xc3 => exact rfl); (case zz359xc4 => exact rfl); k_whole; intro g' L' h' FG' F' N' B' X' T'; (try dsimp only); (try k_fold)) | (refine' code_defC ?zz359xk1 ?zz359xk2 ?zz359xk3 ?zz359xk4 ?zz359xk5 ?zz359xkA ?zz359xkF ?zz359xkK ?zz359xk6 ?zz359xk7 ?zz359xk8 ?zz359xk9 ?zz359xkB ?zz359xkD ?_ ?zz359xc2 ?zz359xc3 ?zz359xc4; (case zz359xkA => exact rfl); (case zz359xkF => exact rfl); (case zz359xkK => first | exact rfl | assumption); (case zz359xk1 => k_asm); (case zz359xk2 => k_asm); (case zz359xk3 => k_asm); (case zz359xk4 => k_asm); (case zz359xk5 => k_asm); (case zz359xk6 => k_is); (case zz359xk7 => k_is); (case zz359xk8 => ktr_room); (case zz359xk9 => first | exact BindsTo.of_eq (binds := []) rfl | exact BindsTo.of_eq (binds := [(_, _)]) rfl | exact BindsTo.of_eq (binds := [(_, _), (_, _)]) rfl | exact BindsTo.of_eq (binds := [(_, _), (_, _), (_, _)]) rfl | exact BindsTo.of_eq (binds := [(_, _), (_, _), (_, _), (_, _)]) rfl | exact BindsTo.of_eq (binds := [(_, _), (_, _), (_, _), (_, _), (_, _)]) rfl | exact BindsTo.of_eq (binds := [(_, _), (_, _), (_, _), (_, _), (_, _), (_, _)]) rfl | exact BindsTo.of_eq (binds := [(_, _), (_, _), (_, _), (_, _), (_, _), (_, _), (_, _)]) rfl | exact BindsTo.of_eq (binds := [(_, _), (_, _), (_, _), (_, _), (_, _), (_, _), (_, _), (_, _)]) rfl | exact BindsTo.of_eq (binds := [(_, _), (_, _), (_, _), (_, _), (_, _), (_, _), (_, _), (_, _), (_, _)]) rfl | exact BindsTo.of_eq (binds := [(_, _), (_, _), (_, _), (_, _), (_, _), (_, _), (_, _), (_, _), (_, _), (_, _)]) rfl | exact binds_K (by k_in) rfl (by k_is) rfl rfl rfl); (case zz359xkB => exact rfl); (case zz359xkD => decide +kernel); (case zz359xc2 => exact rfl); (case zz359xc3 => exact rfl); (case zz359xc4 => exact rfl); k_whole; intro g' L' h' tk' cells' FG' F' N' Y' B' X' T' l1; k_cells Y'; (try simp only [List.cons_append, List.nil_append] at N'); (try dsimp only); (try k_fold)))
  k_with "call ref" => (k_here; k_dflt (refine' mk_inst ?zz352xk1 ?zz352xk2 ?zz352xk3 ?zz352xk4 ?zz352xk5 ?zz352xk6 ?_; (case zz352xk1 => k_asm); (case zz352xk2 => k_asm); (case zz352xk3 => k_asm); (case zz352xk4 => k_is); (case zz352xk5 => k_is); (case zz352xk6 => k_is); k_whole; intro x' d' o' h' F' N' a' l1 l2; (have nd' := nd_cons2 l1 l2 (by assumption)); (try k_sweep); (k_extra "ENTER")))
  k_with "setAttr ref" => (k_here; k_dflt (refine' at_set ?zz353xk1 ?zz353xk2 ?zz353xk3 ?zz353xk4 ?zz353xk5 ?zz353xk6 ?zz353xk7 ?zz353xk8 ?zz353xk9 ?zz353xk10 ?zz353xk11 ?_; (case zz353xk1 => k_asm); (case zz353xk2 => k_asm); (case zz353xk3 => k_asm); (case zz353xk4 => k_mem); (case zz353xk5 => k_updF); (case zz353xk6 => assumption); (case zz353xk7 => k_is); (case zz353xk8 => k_is); (case zz353xk9 => k_is); (case zz353xk10 => k_is); (case zz353xk11 => exact Nat.le_of_ble_eq_true rfl); k_whole; intro h' o' F' N' a'; (try dsimp only at N' a' F'); (try k_sweep)))
  k_with "setAttr ref" => (k_here; k_dflt (refine' at_again ?zz354xk1 ?zz354xk2 ?zz354xk3 ?zz354xk4 ?zz354xk5 ?zz354xk6 ?zz354xk0 ?zz354xk7 ?zz354xk8 ?zz354xk9 ?zz354xk10 ?zz354xk11 ?_; (case zz354xk1 => k_asm); (case zz354xk2 => k_asm); (case zz354xk3 => k_asm); (case zz354xk4 => k_mem); (case zz354xk5 => k_updF); (case zz354xk6 => assumption); (case zz354xk0 => first | exact rfl | assumption); (case zz354xk7 => k_is); (case zz354xk8 => k_is); (case zz354xk9 => k_is); (case zz354xk10 => k_is); (case zz354xk11 => exact Nat.le_of_ble_eq_true rfl); k_whole; intro h' o' F' N' a'; (try dsimp only at N' a' F'); (try k_sweep)))
  k_with "getAttr ref" => (k_here; k_dflt (refine' at_get ?zz355xk1 ?zz355xk2 ?zz355xk3 ?zz355xk4 ?zz355xk5 ?zz355xk6 ?zz355xk7 ?zz355xk8 ?zz355xk9 ?zz355xk10 ?zz355xk11 ?zz355xk12 ?_; (case zz355xk1 => k_asm); (case zz355xk2 => k_asm); (case zz355xk3 => k_asm); (case zz355xk4 => k_mem); (case zz355xk5 => k_mem); (case zz355xk6 => assumption); (case zz355xk7 => first | exact rfl | assumption); (case zz355xk8 => k_is); (case zz355xk9 => k_is); (case zz355xk10 => k_is); (case zz355xk11 => k_is); (case zz355xk12 => k_handed); k_whole))
  k_with "call type:list" => (k_here; (with_reducible show wpAny _ _ (call (Value.type _) [Value.ref _]) _ _ _); (with_unfolding_all refine' list_copyK ?zz356xk1 ?zz356xk2 ?zz356xk3 ?_ ?zz356xz; (case zz356xk1 => k_asm); (case zz356xk2 => k_asm); (case zz356xk3 => exact News.isList (d := none) (sl := #[]) (by k_asm) (by k_mem)); (case zz356xz => size_fits); k_whole); intro D' c' h' F' N' l1; (have nd' := nd_cons l1 (by assumption)); (try k_sweep))
  k_with "compareOp Eq ref ref" => (k_here; (with_reducible show wpAny _ _ (compareOp CmpOp.Eq (Value.ref _) (Value.ref _)) _ _ _); k_dflt (refine' ke_eq_ints (xs := []) (ys := []) ?zz357xa ?zz357xb .nil .nil ?zz357xu ?_; (case zz357xa => exact News.isList (d := none) (sl := #[]) (items := #[]) (by k_asm) (by k_mem)); (case zz357xb => exact News.isList (d := none) (sl := #[]) (items := #[]) (by k_asm) (by k_mem)); (case zz357xu => ktr_units); k_whole))
  k_with "call ref" => (k_here; (with_reducible show wpAny _ _ (call (Value.ref 157) _ _) _ _ _); k_dflt (refine' ready_c ?zz358xq1 ?zz358xq2 ?zz358xB ?zz358xF ?zz358xKX ?zz358xT ?zz358xhk ?zz358xN ?zz358xnd ?zz358xhd ?zz358xhu ?_; (case zz358xB => k_asm); (case zz358xF => k_asm); (case zz358xKX => k_asm); (case zz358xT => k_asm); (case zz358xhk => first | exact rfl | assumption); (case zz358xN => k_asm); (case zz358xhd => ktr_room); (case zz358xhu => ktr_units); (case zz358xq1 => k_mem); (case zz358xq2 => first | assumption | (refine Attrs.pick (by assumption) ?_; repeat' (first | exact List.forall_mem_nil _ | refine List.forall_mem_cons.mpr ⟨rfl, ?_⟩))); (case zz358xnd => assumption); k_whole; intro oe' h' tk' F' N' ae'; (try dsimp only at *); (try k_sweep)))
  trivial



theorem dr_sub {w : World} {mean : ExcName → Option Value} {mg mb : Str → Option Value}
    {dp un : Nat} {gd : Option (List Code)} {cn : Str} {cs : Scope} {a : Addr} {ccd : Value} {cl : List (Str × Addr)} {outer : List Env} {A₀ : Around} {base h₀ : Heap} {L : Addr} {m : Str → Option Value} {news : List (Addr × Obj)} {s : Shared}
    {Q E : Value → Shared → Prop} {rr drr : Addr} {odrr : Obj} {rnrr rorr ca ta : Addr} {e de : Addr} {oe : Obj} {kd nm : Str} {tk tn : Tok} {sv : Value} {ln : Int} {tl : Tok} {reg full : Value} {compl impl : Bool} {home uq nb pa : Value} {r dr : Addr} {odr : Obj} {na oa : Addr} {oc on : Obj} {b co : Nat} {items : Array Value} {fresh : Str → Prop} {l0 l1 l2 l3 l4 : List (Addr × Obj)}
    (he0 : (e, instObj 77 de) ∈ l0) (hrr0 : (rr, instObj 113 drr) ∈ l0) (hrr : (rr, instObj 113 drr) ∈ news) (rs : (RootS b rr rnrr rorr ca ta odrr)) (he : (e, instObj 77 de) ∈ news) (ae : Attrs 17 oe (at_ (entL kd tk nm tn sv ln tl reg full compl impl home uq nb pa))) (sr : SubR news rr r dr odr na oa)
    (cns : CntS w b oc) (lo : (ca == sysModules) = false) (ns : NamS w b on fresh) (hfr : fresh nm) (lon : (na == sysModules) = false) (hit : items.size ≤ 1000) (hb : b ≤ 900)
    (hkd : (kd == Str.ofString "exception") = false) (hnm : Nice nm) (P1 : Pull (de, oe) l0 l1) (P2 : Pull (drr, odrr) l1 l2) (P3 : Pull (ca, oc) l2 l3) (P4 : Pull (na, on) l3 l4) (P5 : Pull (oa, PySem.W.listOf items co) l4 news)
    (B : Below A₀ base outer h₀) (F : Fr h₀ L s.heap m) (KX : (Mine.K w.params).In h₀) (T : Top Mine.q0 (looseW Mine.q0 [Str.ofString "Limits"]) mean mg mb h₀) (hk : cs.kind = .function) (N : News h₀ L s.heap l0) (nd : (l0.map Prod.fst).Nodup) (hd : dp + 40 < recursionLimit) (hu : un + 800 < cLine)
    (hret : ∀ oe' odrr' oc' on' uq' nb' pa' c' h' tks, Fr h₀ L h' m → News h₀ L h' ((de, oe') :: (drr, odrr') :: (ca, oc') :: (na, on') :: (oa, PySem.W.listOf (items.push (.ref e)) c') :: news) → (((de, oe') :: (drr, odrr') :: (ca, oc') :: (na, on') :: (oa, PySem.W.listOf (items.push (.ref e)) c') :: news).map Prod.fst).Nodup → Attrs 18 oe' (at_ (entL kd tk nm tn sv ln tl reg full compl impl (.ref r) uq' nb' pa')) → RootS (b + 1) rr rnrr rorr ca ta odrr' →
      CntS w (b + 1) oc' → NamS w (b + 1) on' (fun x => fresh x ∧ x ≠ nm) → Q .none { s with heap := h', toks := tks }) :
    wpAny (model PySem.Challenge.rw_rg0009_01.row.prog w) (ktrTop dp un gd cn cs L a ccd cl outer) (call (.ref 164) [.ref r, .ref e]) Q E s := by
  obtain ⟨tkrr, parr, Mr, tMr, nurr, tnurr, lvrr, tlvrr, ptrr, tptrr, arr, hM0, hM1⟩ := rs
  obtain ⟨fc, nc, dc, hnc, hcn⟩ := cns
  obtain ⟨fn, nn, dn, hnn, hfn⟩ := ns
  obtain ⟨hr, hdr, ⟨tkr, par, M1, tM1, nu, tnu, lv, tlv, pt, tpt, rc, rh, ar⟩, n, hc⟩ := sr
  replace N := Mine.News.perm N (pull5 P1 P2 P3 P4 P5)
  replace nd := nd_perm nd (pull5 P1 P2 P3 P4 P5)
  clear P1 P2 P3 P4 P5
  (try w_top off); revert KX; k_fill; intro KX
  refine wpAny_call ?_
  (k_extra "ENTER")
  k_steps
  all_goals refine decl_sub hrr arr he ae hr hdr ar hc dc hcn lo (by omega) (by omega) dn (hfn _ hfr) lon (by omega) hit hkd hnm hM0 (by omega) (by k_asm) (by k_asm) (by k_asm) (by k_asm) (by exact rfl) (by k_asm) (by assumption) (by ktr_room) (by ktr_units) ?_
  intro oe' odrr' oc' on' fc' fn' uq' nb' pa' tM' l c' h' tks F' N' ae' arr' dc' hcn' dn' hfe
  dsimp only
  k_steps
  all_goals exact hret _ _ _ _ _ _ _ _ _ _ (by k_asm) (by ktr_rel) (by exact nd) (by refine Attrs.pick (by assumption) ?_; repeat' (first | exact List.forall_mem_nil _ | refine List.forall_mem_cons.mpr ⟨rfl, ?_⟩)) ⟨_, _, _, _, _, _, _, _, _, _, arr', by omega, by omega⟩ ⟨_, _, dc', by omega, hcn'⟩ ⟨_, _, dn', by omega, fun x hx => by rw [hfe]; dsimp only; rw [if_neg hx.2]; exact hfn x hx.1⟩

end Mine
end
section
open PySem PySem.W PyProof.Rows
namespace Mine
theorem ln28 : True := by
  k_with_none
  k_with "ENTER" => (first | (refine' code_def ?zz367xk1 ?zz367xk2 ?zz367xk3 ?zz367xk4 ?zz367xk5 ?zz367xkA ?zz367xkF ?zz367xkK ?zz367xk6 ?zz367xk7 ?zz367xk8 ?zz367xk9 ?zz367xkB ?_ ?zz367xc2 ?zz367xc3 ?zz367xc4 ?zz367xc5; (case zz367xkA => exact rfl); (case zz367xkF => exact rfl); (case zz367xkK => first | exact rfl | assumption); (case zz367xk1 => k_asm); (case zz367xk2 => k_asm); (case zz367xk3 => k_asm); (case zz367xk4 => k_asm); (case zz367xk5 => k_asm); (case zz367xk6 => k_is); (case zz367xk7 => k_is); (case zz367xk8 => ktr_room); (case zz367xk9 => first | exact BindsTo.of_eq (binds := []) rfl | exact BindsTo.of_eq (binds := [(_, _)]) rfl | exact BindsTo.of_eq (binds := [(_, _), (_, _)]) rfl | exact BindsTo.of_eq (binds := [(_, _), (_, _), (_, _)]) rfl | exact BindsTo.of_eq (binds := [(_, _), (_, _), (_, _), (_, _)]) rfl | exact BindsTo.of_eq (binds := [(_, _), (_, _), (_, _), (_, _), (_, _)]) rfl | exact BindsTo.of_eq (binds := [(_, _), (_, _), (_, _), (_, _), (_, _), (_, _)]) rfl | exact BindsTo.of_eq (binds := [(_, _), (_, _), (_, _), (_, _), (_, _), (_, _), (_, _)]) rfl | exact BindsTo.of_eq (binds := [(_, _), (_, _), (_, _), (_, _), (_, _), (_, _), (_, _), (_, _)]) rfl | exact BindsTo.of_eq (binds := [(_, _), (_, _), (_, _), (_, _), (_, _), (_, _), (_, _), (_, _), (_, _)]) rfl | exact BindsTo.of_eq (binds := [(_, _), (_, _), (_, _), (_, _), (_, _), (_, _), (_, _), (_, _), (_, _), (_, _)]) rfl | exact binds_K (by k_in) rfl (by k_is) rfl rfl rfl); (case zz367xc5 => decide); (case zz367xkB => exact locs rfl); (case zz367xc2 => exact rfl); (case zz367xc3 => exact rfl); (case zz367xc4 => exact rfl); k_whole; intro g' L' h' FG' F' N' B' X' T'; (try dsimp only); (try k_fold)) | (refine' code_defC ?zz367xk1 ?zz367xk2 ?zz367xk3 ?zz367xk4 ?zz367xk5 ?zz367xkA ?zz367xkF ?zz367xkK ?zz367xk6 ?zz367xk7 ?zz367xk8 ?zz367xk9 ?zz367xkB ?zz367xkD ?_ ?zz367xc2 ?zz367xc3 ?zz367xc4; (case zz367xkA => exact rfl); (case zz367xkF => exact rfl); (case zz367xkK => first | exact rfl | assumption); (case zz367xk1 => k_asm); (case zz367xk2 => k_asm); (case zz367xk3 => k_asm); (case zz367xk4 => k_asm); (case zz367xk5 => k_asm); (case zz367xk6 => k_is); (case zz367xk7 => k_is); (case zz367xk8 => ktr_room); (case zz367xk9 => first | exact BindsTo.of_eq (binds := []) rfl | exact BindsTo.of_eq (binds := [(_, _)]) rfl | exact BindsTo.of_eq (binds := [(_, _), (_, _)]) rfl | exact BindsTo.of_eq (binds := [(_, _), (_, _), (_, _)]) rfl | exact BindsTo.of_eq (binds := [(_, _), (_, _), (_, _), (_, _)]) rfl | exact BindsTo.of_eq (binds := [(_, _), (_, _), (_, _), (_, _), (_, _)]) rfl | exact BindsTo.of_eq (binds := [(_, _), (_, _), (_, _), (_, _), (_, _), (_, _)]) rfl | exact BindsTo.of_eq (binds := [(_, _), (_, _), (_, _), (_, _), (_, _), (_, _), (_, _)]) rfl | exact BindsTo.of_eq (binds := [(_, _), (_, _), (_, _), (_, _), (_, _), (_, _), (_, _), (_, _)]) rfl | exact BindsTo.of_eq (binds := [(_, _), (_, _), (_, _), (_, _), (_, _), (_, _), (_, _), (_, _), (_, _)]) rfl | exact BindsTo.of_eq (binds := [(_, _), (_, _), (_, _), (_, _), (_, _), (_, _), (_, _), (_, _), (_, _), (_, _)]) rfl | exact binds_K (by k_in) rfl (by k_is) rfl rfl rfl); (case zz367xkB => exact rfl); (case zz367xkD => decide +kernel); (case zz367xc2 => exact rfl); (case zz367xc3 => exact rfl); (case zz367xc4 => exact rfl); k_whole; intro g' L' h' tk' cells' FG' F' N' Y' B' X' T' l1; k_cells Y'; (try simp only [List.cons_append, List.nil_append] at N'); (try dsimp only); (try k_fold)))
  k_with "call ref" => (k_here; k_dflt (refine' mk_inst ?zz360xk1 ?zz360xk2 ?zz360xk3 ?zz360xk4 ?zz360xk5 ?zz360xk6 ?_; (case zz360xk1 => k_asm); (case zz360xk2 => k_asm); (case zz360xk3 => k_asm); (case zz360xk4 => k_is); (case zz360xk5 => k_is); (case zz360xk6 => k_is); k_whole; intro x' d' o' h' F' N' a' l1 l2; (have nd' := nd_cons2 l1 l2 (by assumption)); (try k_sweep); (k_extra "ENTER")))
  k_with "setAttr ref" => (k_here; k_dflt (refine' at_set ?zz361xk1 ?zz361xk2 ?zz361xk3 ?zz361xk4 ?zz361xk5 ?zz361xk6 ?zz361xk7 ?zz361xk8 ?zz361xk9 ?zz361xk10 ?zz361xk11 ?_; (case zz361xk1 => k_asm); (case zz361xk2 => k_asm); (case zz361xk3 => k_asm); (case zz361xk4 => k_mem); (case zz361xk5 => k_updF); (case zz361xk6 => assumption); (case zz361xk7 => k_is); (case zz361xk8 => k_is); (case zz361xk9 => k_is); (case zz361xk10 => k_is); (case zz361xk11 => exact Nat.le_of_ble_eq_true rfl); k_whole; intro h' o' F' N' a'; (try dsimp only at N' a' F'); (try k_sweep)))
  k_with "setAttr ref" => (k_here; k_dflt (refine' at_again ?zz362xk1 ?zz362xk2 ?zz362xk3 ?zz362xk4 ?zz362xk5 ?zz362xk6 ?zz362xk0 ?zz362xk7 ?zz362xk8 ?zz362xk9 ?zz362xk10 ?zz362xk11 ?_; (case zz362xk1 => k_asm); (case zz362xk2 => k_asm); (case zz362xk3 => k_asm); (case zz362xk4 => k_mem); (case zz362xk5 => k_updF); (case zz362xk6 => assumption); (case zz362xk0 => first | exact rfl | assumption); (case zz362xk7 => k_is); (case zz362xk8 => k_is); (case zz362xk9 => k_is); (case zz362xk10 => k_is); (case zz362xk11 => exact Nat.le_of_ble_eq_true rfl); k_whole; intro h' o' F' N' a'; (try dsimp only at N' a' F'); (try k_sweep)))
  k_with "getAttr ref" => (k_here; k_dflt (refine' at_get ?zz363xk1 ?zz363xk2 ?zz363xk3 ?zz363xk4 ?zz363xk5 ?zz363xk6 ?zz363xk7 ?zz363xk8 ?zz363xk9 ?zz363xk10 ?zz363xk11 ?zz363xk12 ?_; (case zz363xk1 => k_asm); (case zz363xk2 => k_asm); (case zz363xk3 => k_asm); (case zz363xk4 => k_mem); (case zz363xk5 => k_mem); (case zz363xk6 => assumption); (case zz363xk7 => first | exact rfl | assumption); (case zz363xk8 => k_is); (case zz363xk9 => k_is); (case zz363xk10 => k_is); (case zz363xk11 => k_is); (case zz363xk12 => k_handed); k_whole))
  k_with "call type:list" => (k_here; (with_reducible show wpAny _ _ (call (Value.type _) [Value.ref _]) _ _ _); (with_unfolding_all refine' list_copyK ?zz364xk1 ?zz364xk2 ?zz364xk3 ?_ ?zz364xz; (case zz364xk1 => k_asm); (case zz364xk2 => k_asm); (case zz364xk3 => exact News.isList (d := none) (sl := #[]) (by k_asm) (by k_mem)); (case zz364xz => size_fits); k_whole); intro D' c' h' F' N' l1; (have nd' := nd_cons l1 (by assumption)); (try k_sweep))
  k_with "compareOp Eq ref ref" => (k_here; (with_reducible show wpAny _ _ (compareOp CmpOp.Eq (Value.ref _) (Value.ref _)) _ _ _); k_dflt (refine' ke_eq_ints (xs := []) (ys := []) ?zz365xa ?zz365xb .nil .nil ?zz365xu ?_; (case zz365xa => exact News.isList (d := none) (sl := #[]) (items := #[]) (by k_asm) (by k_mem)); (case zz365xb => exact News.isList (d := none) (sl := #[]) (items := #[]) (by k_asm) (by k_mem)); (case zz365xu => ktr_units); k_whole))
  k_with "call ref" => (k_here; (with_reducible show wpAny _ _ (call (Value.ref 157) _ _) _ _ _); k_dflt (refine' ready_c ?zz366xq1 ?zz366xq2 ?zz366xB ?zz366xF ?zz366xKX ?zz366xT ?zz366xhk ?zz366xN ?zz366xnd ?zz366xhd ?zz366xhu ?_; (case zz366xB => k_asm); (case zz366xF => k_asm); (case zz366xKX => k_asm); (case zz366xT => k_asm); (case zz366xhk => first | exact rfl | assumption); (case zz366xN => k_asm); (case zz366xhd => ktr_room); (case zz366xhu => ktr_units); (case zz366xq1 => k_mem); (case zz366xq2 => first | assumption | (refine Attrs.pick (by assumption) ?_; repeat' (first | exact List.forall_mem_nil _ | refine List.forall_mem_cons.mpr ⟨rfl, ?_⟩))); (case zz366xnd => assumption); k_whole; intro oe' h' tk' F' N' ae'; (try dsimp only at *); (try k_sweep)))
  trivial



theorem dr_root {w : World} {mean : ExcName → Option Value} {mg mb : Str → Option Value}
    {dp un : Nat} {gd : Option (List Code)} {cn : Str} {cs : Scope} {a : Addr} {ccd : Value} {cl : List (Str × Addr)} {outer : List Env} {A₀ : Around} {base h₀ : Heap} {L : Addr} {m : Str → Option Value} {news : List (Addr × Obj)} {s : Shared}
    {Q E : Value → Shared → Prop} {rr drr : Addr} {odrr : Obj} {ca ta : Addr} {e de : Addr} {oe : Obj} {kd nm : Str} {tk tn : Tok} {sv : Value} {ln : Int} {tl : Tok} {reg full : Value} {compl impl : Bool} {home uq nb pa : Value} {na oa : Addr} {oc on : Obj} {b co : Nat} {items : Array Value} {fresh : Str → Prop} {l0 l1 l2 l3 l4 : List (Addr × Obj)}
    (he0 : (e, instObj 77 de) ∈ l0) (hrr0 : (rr, instObj 113 drr) ∈ l0) (hrr : (rr, instObj 113 drr) ∈ news) (rs : (RootS b rr na oa ca ta odrr)) (he : (e, instObj 77 de) ∈ news) (ae : Attrs 17 oe (at_ (entL kd tk nm tn sv ln tl reg full compl impl home uq nb pa))) 
    (cns : CntS w b oc) (lo : (ca == sysModules) = false) (ns : NamS w b on fresh) (hfr : fresh nm) (lon : (na == sysModules) = false) (hit : items.size ≤ 1000) (hb : b ≤ 900)
    (hkd : (kd == Str.ofString "exception") = false) (hnm : Nice nm) (P1 : Pull (de, oe) l0 l1) (P2 : Pull (drr, odrr) l1 l2) (P3 : Pull (ca, oc) l2 l3) (P4 : Pull (na, on) l3 l4) (P5 : Pull (oa, PySem.W.listOf items co) l4 news)
    (B : Below A₀ base outer h₀) (F : Fr h₀ L s.heap m) (KX : (Mine.K w.params).In h₀) (T : Top Mine.q0 (looseW Mine.q0 [Str.ofString "Limits"]) mean mg mb h₀) (hk : cs.kind = .function) (N : News h₀ L s.heap l0) (nd : (l0.map Prod.fst).Nodup) (hd : dp + 40 < recursionLimit) (hu : un + 800 < cLine)
    (hret : ∀ oe' odrr' oc' on' uq' nb' pa' c' h' tks, Fr h₀ L h' m → News h₀ L h' ((de, oe') :: (drr, odrr') :: (ca, oc') :: (na, on') :: (oa, PySem.W.listOf (items.push (.ref e)) c') :: news) → (((de, oe') :: (drr, odrr') :: (ca, oc') :: (na, on') :: (oa, PySem.W.listOf (items.push (.ref e)) c') :: news).map Prod.fst).Nodup → Attrs 18 oe' (at_ (entL kd tk nm tn sv ln tl reg full compl impl (.ref rr) uq' nb' pa')) → RootS (b + 1) rr na oa ca ta odrr' →
      CntS w (b + 1) oc' → NamS w (b + 1) on' (fun x => fresh x ∧ x ≠ nm) → Q .none { s with heap := h', toks := tks }) :
    wpAny (model PySem.Challenge.rw_rg0009_01.row.prog w) (ktrTop dp un gd cn cs L a ccd cl outer) (call (.ref 164) [.ref rr, .ref e]) Q E s := by
  obtain ⟨tkrr, parr, Mr, tMr, nurr, tnurr, lvrr, tlvrr, ptrr, tptrr, arr, hM0, hM1⟩ := rs
  obtain ⟨fc, nc, dc, hnc, hcn⟩ := cns
  obtain ⟨fn, nn, dn, hnn, hfn⟩ := ns
  replace N := Mine.News.perm N (pull5 P1 P2 P3 P4 P5)
  replace nd := nd_perm nd (pull5 P1 P2 P3 P4 P5)
  clear P1 P2 P3 P4 P5
  (try w_top off); revert KX; k_fill; intro KX
  refine wpAny_call ?_
  (k_extra "ENTER")
  k_steps
  all_goals refine decl_root hrr arr he ae dc hcn lo (by omega) (by omega) dn (hfn _ hfr) lon (by omega) hit hkd hnm hM0 (by omega) (by k_asm) (by k_asm) (by k_asm) (by k_asm) (by exact rfl) (by k_asm) (by assumption) (by ktr_room) (by ktr_units) ?_
  intro oe' odrr' oc' on' fc' fn' uq' nb' pa' tM' l c' h' tks F' N' ae' arr' dc' hcn' dn' hfe
  dsimp only
  k_steps
  all_goals exact hret _ _ _ _ _ _ _ _ _ _ (by k_asm) (by ktr_rel) (by exact nd) (by refine Attrs.pick (by assumption) ?_; repeat' (first | exact List.forall_mem_nil _ | refine List.forall_mem_cons.mpr ⟨rfl, ?_⟩)) ⟨_, _, _, _, _, _, _, _, _, _, arr', by omega, by omega⟩ ⟨_, _, dc', by omega, hcn'⟩ ⟨_, _, dn', by omega, fun x hx => by rw [hfe]; dsimp only; rw [if_neg hx.2]; exact hfn x hx.1⟩

end Mine
end
section
open PySem PySem.W PyProof.Rows
namespace Mine
theorem ln29 : True := by
  k_with_none
  k_with "ENTER" => (first | (refine' code_def ?zz374xk1 ?zz374xk2 ?zz374xk3 ?zz374xk4 ?zz374xk5 ?zz374xkA ?zz374xkF ?zz374xkK ?zz374xk6 ?zz374xk7 ?zz374xk8 ?zz374xk9 ?zz374xkB ?_ ?zz374xc2 ?zz374xc3 ?zz374xc4 ?zz374xc5; (case zz374xkA => exact rfl); (case zz374xkF => exact rfl); (case zz374xkK => first | exact rfl | assumption); (case zz374xk1 => k_asm); (case zz374xk2 => k_asm); (case zz374xk3 => k_asm); (case zz374xk4 => k_asm); (case zz374xk5 => k_asm); (case zz374xk6 => k_is); (case zz374xk7 => k_is); (case zz374xk8 => ktr_room); (case zz374xk9 => first | exact BindsTo.of_eq (binds := []) rfl | exact BindsTo.of_eq (binds := [(_, _)]) rfl | exact BindsTo.of_eq (binds := [(_, _), (_, _)]) rfl | exact BindsTo.of_eq (binds := [(_, _), (_, _), (_, _)]) rfl | exact BindsTo.of_eq (binds := [(_, _), (_, _), (_, _), (_, _)]) rfl | exact BindsTo.of_eq (binds := [(_, _), (_, _), (_, _), (_, _), (_, _)]) rfl | exact BindsTo.of_eq (binds := [(_, _), (_, _), (_, _), (_, _), (_, _), (_, _)]) rfl | exact BindsTo.of_eq (binds := [(_, _), (_, _), (_, _), (_, _), (_, _), (_, _), (_, _)]) rfl | exact BindsTo.of_eq (binds := [(_, _), (_, _), (_, _), (_, _), (_, _), (_, _), (_, _), (_, _)]) rfl | exact BindsTo.of_eq (binds := [(_, _), (_, _), (_, _), (_, _), (_, _), (_, _), (_, _), (_, _), (_, _)]) rfl | exact BindsTo.of_eq (binds := [(_, _), (_, _), (_, _), (_, _), (_, _), (_, _), (_, _), (_, _), (_, _), (_, _)]) rfl | exact binds_K (by k_in) rfl (by k_is) rfl rfl rfl); (case zz374xc5 => decide); (case zz374xkB => exact locs rfl); (case zz374xc2 => exact rfl); (case zz374xc3 => exact rfl); (case zz374xc4 => exact rfl); k_whole; intro g' L' h' FG' F' N' B' X' T'; (try dsimp only); (try k_fold)) | (refine' code_defC ?zz374xk1 ?zz374xk2 ?zz374xk3 ?zz374xk4 ?zz374xk5 ?zz374xkA ?zz374xkF ?zz374xkK ?zz374xk6 ?zz374xk7 ?zz374xk8 ?zz374xk9 ?zz374xkB ?zz374xkD ?_ ?zz374xc2 ?zz374xc3 ?zz374xc4; (case zz374xkA => exact rfl); (case zz374xkF => exact rfl); (case zz374xkK => first | exact rfl | assumption); (case zz374xk1 => k_asm); (case zz374xk2 => k_asm); (case zz374xk3 => k_asm); (case zz374xk4 => k_asm); (case zz374xk5 => k_asm); (case zz374xk6 => k_is); (case zz374xk7 => k_is); (case zz374xk8 => ktr_room); (case zz374xk9 => first | exact BindsTo.of_eq (binds := []) rfl | exact BindsTo.of_eq (binds := [(_, _)]) rfl | exact BindsTo.of_eq (binds := [(_, _), (_, _)]) rfl | exact BindsTo.of_eq (binds := [(_, _), (_, _), (_, _)]) rfl | exact BindsTo.of_eq (binds := [(_, _), (_, _), (_, _), (_, _)]) rfl | exact BindsTo.of_eq (binds := [(_, _), (_, _), (_, _), (_, _), (_, _)]) rfl | exact BindsTo.of_eq (binds := [(_, _), (_, _), (_, _), (_, _), (_, _), (_, _)]) rfl | exact BindsTo.of_eq (binds := [(_, _), (_, _), (_, _), (_, _), (_, _), (_, _), (_, _)]) rfl | exact BindsTo.of_eq (binds := [(_, _), (_, _), (_, _), (_, _), (_, _), (_, _), (_, _), (_, _)]) rfl | exact BindsTo.of_eq (binds := [(_, _), (_, _), (_, _), (_, _), (_, _), (_, _), (_, _), (_, _), (_, _)]) rfl | exact BindsTo.of_eq (binds := [(_, _), (_, _), (_, _), (_, _), (_, _), (_, _), (_, _), (_, _), (_, _), (_, _)]) rfl | exact binds_K (by k_in) rfl (by k_is) rfl rfl rfl); (case zz374xkB => exact rfl); (case zz374xkD => decide +kernel); (case zz374xc2 => exact rfl); (case zz374xc3 => exact rfl); (case zz374xc4 => exact rfl); k_whole; intro g' L' h' tk' cells' FG' F' N' Y' B' X' T' l1; k_cells Y'; (try simp only [List.cons_append, List.nil_append] at N'); (try dsimp only); (try k_fold)))
  k_with "call ref" => (k_here; k_dflt (refine' mk_inst ?zz368xk1 ?zz368xk2 ?zz368xk3 ?zz368xk4 ?zz368xk5 ?zz368xk6 ?_; (case zz368xk1 => k_asm); (case zz368xk2 => k_asm); (case zz368xk3 => k_asm); (case zz368xk4 => k_is); (case zz368xk5 => k_is); (case zz368xk6 => k_is); k_whole; intro x' d' o' h' F' N' a' l1 l2; (have nd' := nd_cons2 l1 l2 (by assumption)); (try k_sweep); (k_extra "ENTER")))
  k_with "setAttr ref" => (k_here; k_dflt (refine' at_set ?zz369xk1 ?zz369xk2 ?zz369xk3 ?zz369xk4 ?zz369xk5 ?zz369xk6 ?zz369xk7 ?zz369xk8 ?zz369xk9 ?zz369xk10 ?zz369xk11 ?_; (case zz369xk1 => k_asm); (case zz369xk2 => k_asm); (case zz369xk3 => k_asm); (case zz369xk4 => k_mem); (case zz369xk5 => k_updF); (case zz369xk6 => assumption); (case zz369xk7 => k_is); (case zz369xk8 => k_is); (case zz369xk9 => k_is); (case zz369xk10 => k_is); (case zz369xk11 => exact Nat.le_of_ble_eq_true rfl); k_whole; intro h' o' F' N' a'; (try dsimp only at N' a' F'); (try k_sweep)))
  k_with "setAttr ref" => (k_here; k_dflt (refine' at_again ?zz370xk1 ?zz370xk2 ?zz370xk3 ?zz370xk4 ?zz370xk5 ?zz370xk6 ?zz370xk0 ?zz370xk7 ?zz370xk8 ?zz370xk9 ?zz370xk10 ?zz370xk11 ?_; (case zz370xk1 => k_asm); (case zz370xk2 => k_asm); (case zz370xk3 => k_asm); (case zz370xk4 => k_mem); (case zz370xk5 => k_updF); (case zz370xk6 => assumption); (case zz370xk0 => first | exact rfl | assumption); (case zz370xk7 => k_is); (case zz370xk8 => k_is); (case zz370xk9 => k_is); (case zz370xk10 => k_is); (case zz370xk11 => exact Nat.le_of_ble_eq_true rfl); k_whole; intro h' o' F' N' a'; (try dsimp only at N' a' F'); (try k_sweep)))
  k_with "getAttr ref" => (k_here; k_dflt (refine' at_get ?zz371xk1 ?zz371xk2 ?zz371xk3 ?zz371xk4 ?zz371xk5 ?zz371xk6 ?zz371xk7 ?zz371xk8 ?zz371xk9 ?zz371xk10 ?zz371xk11 ?zz371xk12 ?_; (case zz371xk1 => k_asm); (case zz371xk2 => k_asm); (case zz371xk3 => k_asm); (case zz371xk4 => k_mem); (case zz371xk5 => k_mem); (case zz371xk6 => assumption); (case zz371xk7 => first | exact rfl | assumption); (case zz371xk8 => k_is); (case zz371xk9 => k_is); (case zz371xk10 => k_is); (case zz371xk11 => k_is); (case zz371xk12 => k_handed); k_whole))
  k_with "call type:list" => (k_here; (with_reducible show wpAny _ _ (call (Value.type _) [Value.ref _]) _ _ _); (with_unfolding_all refine' list_copyK ?zz372xk1 ?zz372xk2 ?zz372xk3 ?_ ?zz372xz; (case zz372xk1 => k_asm); (case zz372xk2 => k_asm); (case zz372xk3 => exact News.isList (d := none) (sl := #[]) (by k_asm) (by k_mem)); (case zz372xz => size_fits); k_whole); intro D' c' h' F' N' l1; (have nd' := nd_cons l1 (by assumption)); (try k_sweep))
  k_with "compareOp Eq ref ref" => (k_here; (with_reducible show wpAny _ _ (compareOp CmpOp.Eq (Value.ref _) (Value.ref _)) _ _ _); k_dflt (refine' ke_eq_ints (xs := []) (ys := []) ?zz373xa ?zz373xb .nil .nil ?zz373xu ?_; (case zz373xa => exact News.isList (d := none) (sl := #[]) (items := #[]) (by k_asm) (by k_mem)); (case zz373xb => exact News.isList (d := none) (sl := #[]) (items := #[]) (by k_asm) (by k_mem)); (case zz373xu => ktr_units); k_whole))
  trivial



theorem note_h {w : World} {mean : ExcName → Option Value} {mg mb : Str → Option Value}
    {dp un : Nat} {gd : Option (List Code)} {cn : Str} {cs : Scope} {a : Addr} {ccd : Value} {cl : List (Str × Addr)} {outer : List Env} {A₀ : Around} {base h₀ : Heap} {L : Addr} {m : Str → Option Value} {news : List (Addr × Obj)} {s : Shared}
    {Q E : Value → Shared → Prop} {rr drr r : Addr} {odrr ot : Obj} {rnrr rorr ca ta na oa : Addr} {k k2 : Int} {b b' : Nat} {ft : Int → Option Value} {tj : Tok} {g : Obj → List (Addr × Obj)}
    (hrr : (rr, instObj 113 drr) ∈ news) (hdrr : (drr, odrr) ∈ news) (rs : RootS b rr rnrr rorr ca ta odrr) (hh : Home news rr r rnrr rorr na oa) (hs : HomS w b' k ot ft) (lot : (ta == sysModules) = false) (hb : b' ≤ 900) (h0 : 0 ≤ k) (hk2 : k < k2) (hk3 : k2 ≤ 9000)
    (B : Below A₀ base outer h₀) (F : Fr h₀ L s.heap m) (KX : (Mine.K w.params).In h₀) (T : Top Mine.q0 (looseW Mine.q0 [Str.ofString "Limits"]) mean mg mb h₀) (hk : cs.kind = .function) (N : News h₀ L s.heap news) (nd : (news.map Prod.fst).Nodup) (U : UpdF ta ot news g) (hd : dp + 10 < recursionLimit) (hu : un + 500 < cLine)
    (hret : ∀ ot' tp pt tpt h' tks, Fr h₀ L h' m → News h₀ L h' ((tp, tupObj r pt tpt) :: g ot') → (tp :: news.map Prod.fst).Nodup → HomS w (b' + 1) k2 ot' (fun x => if x = 100 + k2 then some (.ref tp) else ft x) → (∀ j v, ft j = some v → (if j = 100 + k2 then some (.ref tp) else ft j) = some v) → Q .none { s with heap := h', toks := tks }) :
    wpAny (model PySem.Challenge.rw_rg0009_01.row.prog w) (ktrTop dp un gd cn cs L a ccd cl outer) (call (.ref 171) [.ref r, .int (100 + k2) tj]) Q E s := by
  obtain ⟨tkrr, parr, Mr, tMr, nurr, tnurr, lvrr, tlvrr, ptrr, tptrr, arr, hM0, hM1⟩ := rs
  obtain ⟨nt, dt, hnt, hfree⟩ := hs
  have hold : ∀ tp : Addr, ∀ j v, ft j = some v → (if j = 100 + k2 then some (Value.ref tp) else ft j) = some v := fun tp j v e => by
    by_cases hj : j = 100 + k2
    · rw [hj, hfree _ (by omega)] at e; cases e
    · rw [if_neg hj]; exact e
  have hnew : ∀ (ot' : Obj) (tp : Addr), Dic (intKind PySem.Challenge.rw_rg0009_01.row.prog w) ot' (nt + 1) (fun x => if x = 100 + k2 then some (.ref tp) else ft x) → HomS w (b' + 1) k2 ot' (fun x => if x = 100 + k2 then some (.ref tp) else ft x) := fun ot' tp d =>
    ⟨_, d, by omega, fun j hj => (if_neg (show ¬ j = 100 + k2 by omega)).trans (hfree _ (by omega))⟩
  rcases hh with ⟨rfl, rfl, rfl⟩ | ⟨dr, odr, hr, hdr, ⟨tkr, par, M1, tM1, nu, tnu, lv, tlv, pt, tpt, rc, rh, ar⟩, nch, hc⟩
  · exact note_c hrr hdrr arr hrr hdrr arr dt (hfree _ (by omega)) lot (by omega) (by omega) (by omega) B F KX T hk N nd U hd hu fun ot' tp h' tks F' N' nd' dt' => hret ot' tp _ _ h' tks F' N' nd' (hnew _ _ dt') (hold tp)
  · exact note_c hr hdr ar hrr hdrr arr dt (hfree _ (by omega)) lot (by omega) (by omega) (by omega) B F KX T hk N nd U hd hu fun ot' tp h' tks F' N' nd' dt' => hret ot' tp _ _ h' tks F' N' nd' (hnew _ _ dt') (hold tp)

theorem dr_c {w : World} {mean : ExcName → Option Value} {mg mb : Str → Option Value}
    {dp un : Nat} {gd : Option (List Code)} {cn : Str} {cs : Scope} {a : Addr} {ccd : Value} {cl : List (Str × Addr)} {outer : List Env} {A₀ : Around} {base h₀ : Heap} {L : Addr} {m : Str → Option Value} {news : List (Addr × Obj)} {s : Shared}
    {Q E : Value → Shared → Prop} {rr drr : Addr} {odrr : Obj} {rnrr rorr ca ta : Addr} {e de : Addr} {oe : Obj} {kd nm : Str} {tk tn : Tok} {sv : Value} {ln : Int} {tl : Tok} {reg full : Value} {compl impl : Bool} {home uq nb pa : Value} {r : Addr} {na oa : Addr} {oc on : Obj} {b co : Nat} {items : Array Value} {fresh : Str → Prop} {l0 l1 l2 l3 l4 nsm : List (Addr × Obj)}
    (he0 : (e, instObj 77 de) ∈ l0) (hrr0 : (rr, instObj 113 drr) ∈ l0) (hrr : (rr, instObj 113 drr) ∈ news) (rs : RootS b rr rnrr rorr ca ta odrr) (he : (e, instObj 77 de) ∈ news) (ae : Attrs 17 oe (at_ (entL kd tk nm tn sv ln tl reg full compl impl home uq nb pa))) (hh : Home nsm rr r rnrr rorr na oa) (hincl : ∀ p ∈ nsm, p ∈ news)
    (cns : CntS w b oc) (lo : (ca == sysModules) = false) (ns : NamS w b on fresh) (hfr : fresh nm) (lon : (na == sysModules) = false) (hit : items.size ≤ 1000) (hb : b ≤ 900)
    (hkd : (kd == Str.ofString "exception") = false) (hnm : Nice nm) (P1 : Pull (de, oe) l0 l1) (P2 : Pull (drr, odrr) l1 l2) (P3 : Pull (ca, oc) l2 l3) (P4 : Pull (na, on) l3 l4) (P5 : Pull (oa, PySem.W.listOf items co) l4 news)
    (B : Below A₀ base outer h₀) (F : Fr h₀ L s.heap m) (KX : (Mine.K w.params).In h₀) (T : Top Mine.q0 (looseW Mine.q0 [Str.ofString "Limits"]) mean mg mb h₀) (hk : cs.kind = .function) (N : News h₀ L s.heap l0) (nd : (l0.map Prod.fst).Nodup) (hd : dp + 40 < recursionLimit) (hu : un + 800 < cLine)
    (hret : ∀ oe' odrr' oc' on' uq' nb' pa' c' h' tks, Fr h₀ L h' m → News h₀ L h' ((de, oe') :: (drr, odrr') :: (ca, oc') :: (na, on') :: (oa, PySem.W.listOf (items.push (.ref e)) c') :: news) → (((de, oe') :: (drr, odrr') :: (ca, oc') :: (na, on') :: (oa, PySem.W.listOf (items.push (.ref e)) c') :: news).map Prod.fst).Nodup → Attrs 18 oe' (at_ (entL kd tk nm tn sv ln tl reg full compl impl (.ref r) uq' nb' pa')) → RootS (b + 1) rr rnrr rorr ca ta odrr' →
      CntS w (b + 1) oc' → NamS w (b + 1) on' (fun x => fresh x ∧ x ≠ nm) → Q .none { s with heap := h', toks := tks }) :
    wpAny (model PySem.Challenge.rw_rg0009_01.row.prog w) (ktrTop dp un gd cn cs L a ccd cl outer) (call (.ref 164) [.ref r, .ref e]) Q E s := by
  replace hh := hh.sub hincl
  rcases hh with ⟨rfl, rfl, rfl⟩ | ⟨dr, odr, sr⟩
  · exact dr_root he0 hrr0 hrr rs he ae cns lo ns hfr lon hit hb hkd hnm P1 P2 P3 P4 P5 B F KX T hk N nd hd hu hret
  · exact dr_sub he0 hrr0 hrr rs he ae sr cns lo ns hfr lon hit hb hkd hnm P1 P2 P3 P4 P5 B F KX T hk N nd hd hu hret

end Mine
end
section
open PySem PySem.W PyProof.Rows
namespace Mine
theorem ln30 : True := by
  k_with_none
  k_with "ENTER" => (first | (refine' code_def ?zz409xk1 ?zz409xk2 ?zz409xk3 ?zz409xk4 ?zz409xk5 ?zz409xkA ?zz409xkF ?zz409xkK ?zz409xk6 ?zz409xk7 ?zz409xk8 ?zz409xk9 ?zz409xkB ?_ ?zz409xc2 ?zz409xc3 ?zz409xc4 ?zz409xc5; (case zz409xkA => exact rfl); (case zz409xkF => exact rfl); (case zz409xkK => first | exact rfl | assumption); (case zz409xk1 => k_asm); (case zz409xk2 => k_asm); (case zz409xk3 => k_asm); (case zz409xk4 => k_asm); (case zz409xk5 => k_asm); (case zz409xk6 => k_is); (case zz409xk7 => k_is); (case zz409xk8 => ktr_room); (case zz409xk9 => first | exact BindsTo.of_eq (binds := []) rfl | exact BindsTo.of_eq (binds := [(_, _)]) rfl | exact BindsTo.of_eq (binds := [(_, _), (_, _)]) rfl | exact BindsTo.of_eq (binds := [(_, _), (_, _), (_, _)]) rfl | exact BindsTo.of_eq (binds := [(_, _), (_, _), (_, _), (_, _)]) rfl | exact BindsTo.of_eq (binds := [(_, _), (_, _), (_, _), (_, _), (_, _)]) rfl | exact BindsTo.of_eq (binds := [(_, _), (_, _), (_, _), (_, _), (_, _), (_, _)]) rfl | exact BindsTo.of_eq (binds := [(_, _), (_, _), (_, _), (_, _), (_, _), (_, _), (_, _)]) rfl | exact BindsTo.of_eq (binds := [(_, _), (_, _), (_, _), (_, _), (_, _), (_, _), (_, _), (_, _)]) rfl | exact BindsTo.of_eq (binds := [(_, _), (_, _), (_, _), (_, _), (_, _), (_, _), (_, _), (_, _), (_, _)]) rfl | exact BindsTo.of_eq (binds := [(_, _), (_, _), (_, _), (_, _), (_, _), (_, _), (_, _), (_, _), (_, _), (_, _)]) rfl | exact binds_K (by k_in) rfl (by k_is) rfl rfl rfl); (case zz409xc5 => decide); (case zz409xkB => exact locs rfl); (case zz409xc2 => exact rfl); (case zz409xc3 => exact rfl); (case zz409xc4 => exact rfl); k_whole; intro g' L' h' FG' F' N' B' X' T'; (try dsimp only); (try k_fold)) | (refine' code_defC ?zz409xk1 ?zz409xk2 ?zz409xk3 ?zz409xk4 ?zz409xk5 ?zz409xkA ?zz409xkF ?zz409xkK ?zz409xk6 ?zz409xk7 ?zz409xk8 ?zz409xk9 ?zz409xkB ?zz409xkD ?_ ?zz409xc2 ?zz409xc3 ?zz409xc4; (case zz409xkA => exact rfl); (case zz409xkF => exact rfl); (case zz409xkK => first | exact rfl | assumption); (case zz409xk1 => k_asm); (case zz409xk2 => k_asm); (case zz409xk3 => k_asm); (case zz409xk4 => k_asm); (case zz409xk5 => k_asm); (case zz409xk6 => k_is); (case zz409xk7 => k_is); (case zz409xk8 => ktr_room); (case zz409xk9 => first | exact BindsTo.of_eq (binds := []) rfl | exact BindsTo.of_eq (binds := [(_, _)]) rfl | exact BindsTo.of_eq (binds := [(_, _), (_, _)]) rfl | exact BindsTo.of_eq (binds := [(_, _), (_, _), (_, _)]) rfl | exact BindsTo.of_eq (binds := [(_, _), (_, _), (_, _), (_, _)]) rfl | exact BindsTo.of_eq (binds := [(_, _), (_, _), (_, _), (_, _), (_, _)]) rfl | exact BindsTo.of_eq (binds := [(_, _), (_, _), (_, _), (_, _), (_, _), (_, _)]) rfl | exact BindsTo.of_eq (binds := [(_, _), (_, _), (_, _), (_, _), (_, _), (_, _), (_, _)]) rfl | exact BindsTo.of_eq (binds := [(_, _), (_, _), (_, _), (_, _), (_, _), (_, _), (_, _), (_, _)]) rfl | exact BindsTo.of_eq (binds := [(_, _), (_, _), (_, _), (_, _), (_, _), (_, _), (_, _), (_, _), (_, _)]) rfl | exact BindsTo.of_eq (binds := [(_, _), (_, _), (_, _), (_, _), (_, _), (_, _), (_, _), (_, _), (_, _), (_, _)]) rfl | exact binds_K (by k_in) rfl (by k_is) rfl rfl rfl); (case zz409xkB => exact rfl); (case zz409xkD => decide +kernel); (case zz409xc2 => exact rfl); (case zz409xc3 => exact rfl); (case zz409xc4 => exact rfl); k_whole; intro g' L' h' tk' cells' FG' F' N' Y' B' X' T' l1; k_cells Y'; (try simp only [List.cons_append, List.nil_append] at N'); (try dsimp only); (try k_fold)))
  k_with "call ref" => (k_here; k_dflt (refine' mk_inst ?zz375xk1 ?zz375xk2 ?zz375xk3 ?zz375xk4 ?zz375xk5 ?zz375xk6 ?_; (case zz375xk1 => k_asm); (case zz375xk2 => k_asm); (case zz375xk3 => k_asm); (case zz375xk4 => k_is); (case zz375xk5 => k_is); (case zz375xk6 => k_is); k_whole; intro x' d' o' h' F' N' a' l1 l2; (have nd' := nd_cons2 l1 l2 (by assumption)); (try k_sweep); (k_extra "ENTER")))
  k_with "setAttr ref" => (k_here; k_dflt (refine' at_set ?zz376xk1 ?zz376xk2 ?zz376xk3 ?zz376xk4 ?zz376xk5 ?zz376xk6 ?zz376xk7 ?zz376xk8 ?zz376xk9 ?zz376xk10 ?zz376xk11 ?_; (case zz376xk1 => k_asm); (case zz376xk2 => k_asm); (case zz376xk3 => k_asm); (case zz376xk4 => k_mem); (case zz376xk5 => k_updF); (case zz376xk6 => assumption); (case zz376xk7 => k_is); (case zz376xk8 => k_is); (case zz376xk9 => k_is); (case zz376xk10 => k_is); (case zz376xk11 => exact Nat.le_of_ble_eq_true rfl); k_whole; intro h' o' F' N' a'; (try dsimp only at N' a' F'); (try k_sweep)))
  k_with "setAttr ref" => (k_here; k_dflt (refine' at_again ?zz377xk1 ?zz377xk2 ?zz377xk3 ?zz377xk4 ?zz377xk5 ?zz377xk6 ?zz377xk0 ?zz377xk7 ?zz377xk8 ?zz377xk9 ?zz377xk10 ?zz377xk11 ?_; (case zz377xk1 => k_asm); (case zz377xk2 => k_asm); (case zz377xk3 => k_asm); (case zz377xk4 => k_mem); (case zz377xk5 => k_updF); (case zz377xk6 => assumption); (case zz377xk0 => first | exact rfl | assumption); (case zz377xk7 => k_is); (case zz377xk8 => k_is); (case zz377xk9 => k_is); (case zz377xk10 => k_is); (case zz377xk11 => exact Nat.le_of_ble_eq_true rfl); k_whole; intro h' o' F' N' a'; (try dsimp only at N' a' F'); (try k_sweep)))
  k_with "getAttr ref" => (k_here; k_dflt (refine' at_get ?zz378xk1 ?zz378xk2 ?zz378xk3 ?zz378xk4 ?zz378xk5 ?zz378xk6 ?zz378xk7 ?zz378xk8 ?zz378xk9 ?zz378xk10 ?zz378xk11 ?zz378xk12 ?_; (case zz378xk1 => k_asm); (case zz378xk2 => k_asm); (case zz378xk3 => k_asm); (case zz378xk4 => k_mem); (case zz378xk5 => k_mem); (case zz378xk6 => assumption); (case zz378xk7 => first | exact rfl | assumption); (case zz378xk8 => k_is); (case zz378xk9 => k_is); (case zz378xk10 => k_is); (case zz378xk11 => k_is); (case zz378xk12 => k_handed); k_whole))
  k_with "call type:list" => (k_here; (with_reducible show wpAny _ _ (call (Value.type _) [Value.ref _]) _ _ _); (with_unfolding_all refine' list_copyK ?zz379xk1 ?zz379xk2 ?zz379xk3 ?_ ?zz379xz; (case zz379xk1 => k_asm); (case zz379xk2 => k_asm); (case zz379xk3 => exact News.isList (d := none) (sl := #[]) (by k_asm) (by k_mem)); (case zz379xz => size_fits); k_whole); intro D' c' h' F' N' l1; (have nd' := nd_cons l1 (by assumption)); (try k_sweep))
  k_with "compareOp Eq ref ref" => (k_here; (with_reducible show wpAny _ _ (compareOp CmpOp.Eq (Value.ref _) (Value.ref _)) _ _ _); k_dflt (refine' ke_eq_ints (xs := []) (ys := []) ?zz380xa ?zz380xb .nil .nil ?zz380xu ?_; (case zz380xa => exact News.isList (d := none) (sl := #[]) (items := #[]) (by k_asm) (by k_mem)); (case zz380xb => exact News.isList (d := none) (sl := #[]) (items := #[]) (by k_asm) (by k_mem)); (case zz380xu => ktr_units); k_whole))
  k_with "getMethod ref" => (k_here; k_dflt (first | ((with_reducible show wpAny _ _ (getMethod (Value.ref _) (Str.ofString "get") _) _ _ _); refine' dic_method (knd := PySem.strKind _ _) PySem.F.slot_dict_get PySem.F.type_dict_get ?zz381xa ?zz381xb ?zz381xc ?_; (case zz381xa => k_asm); (case zz381xb => k_mem); (case zz381xc => assumption); k_whole) | ((with_reducible show wpAny _ _ (getMethod (Value.ref _) (Str.ofString "get") _) _ _ _); refine' dic_method (knd := PySem.intKind _ _) PySem.F.slot_dict_get PySem.F.type_dict_get ?zz381xa ?zz381xb ?zz381xc ?_; (case zz381xa => k_asm); (case zz381xb => k_mem); (case zz381xc => assumption); k_whole) | ((with_reducible show wpAny _ _ (getMethod (Value.ref _) (Str.ofString "setdefault") _) _ _ _); refine' dic_method (knd := PySem.strKind _ _) PySem.F.slot_dict_setdefault PySem.F.type_dict_setdefault ?zz381xa ?zz381xb ?zz381xc ?_; (case zz381xa => k_asm); (case zz381xb => k_mem); (case zz381xc => assumption); k_whole) | ((with_reducible show wpAny _ _ (getMethod (Value.ref _) (Str.ofString "setdefault") _) _ _ _); refine' dic_method (knd := PySem.intKind _ _) PySem.F.slot_dict_setdefault PySem.F.type_dict_setdefault ?zz381xa ?zz381xb ?zz381xc ?_; (case zz381xa => k_asm); (case zz381xb => k_mem); (case zz381xc => assumption); k_whole)))
  k_with "call builtin:dict.get" => (k_here; k_dflt (first
  | (refine' dic_get2 (knd := PySem.strKind _ _) ?zz382xa ?zz382xb ?zz382xc ?zz382xd (strKind_is _ _ _ _) ?_; (case zz382xa => k_asm); (case zz382xb => k_mem); (case zz382xc => assumption); (case zz382xd => assumption); k_whole)
  | (refine' dic_get1 (knd := PySem.intKind _ _) ?zz382xa ?zz382xb ?zz382xc ?zz382xd (intKind_is _ _ _ _) ?_; (case zz382xa => k_asm); (case zz382xb => k_mem); (case zz382xc => assumption); (case zz382xd => assumption); k_whole)); (try simp only [Option.getD_none, Option.getD_some, *]))
  k_with "call builtin:dict.setdefault" => (k_here; k_dflt (first
  | (refine' dic_default (knd := PySem.strKind _ _) ?zz383xa ?zz383xb ?zz383xc ?zz383xd ?zz383xe (strKind_is _ _ _ _) ?zz383xf ?zz383xg ?_; (case zz383xa => k_asm); (case zz383xb => k_asm); (case zz383xc => k_updF); (case zz383xd => assumption); (case zz383xe => assumption); (case zz383xf => omega); (case zz383xg => assumption); k_whole)
  | (refine' dic_default (knd := PySem.intKind _ _) ?zz383xa ?zz383xb ?zz383xc ?zz383xd ?zz383xe (intKind_is _ _ _ _) ?zz383xf ?zz383xg ?_; (case zz383xa => k_asm); (case zz383xb => k_asm); (case zz383xc => k_updF); (case zz383xd => assumption); (case zz383xe => assumption); (case zz383xf => omega); (case zz383xg => assumption); k_whole)); intro h' o' F' N' dc'; (try dsimp only at N' dc' F'); (try k_sweep))
  k_with "setItem ref str" => (k_here; k_dflt (refine' dic_set (knd := PySem.strKind _ _) ?zz384xa ?zz384xb ?zz384xc ?zz384xd (strKind_is _ _ _ _) ?zz384xf ?_; (case zz384xa => k_asm); (case zz384xb => k_asm); (case zz384xc => k_updF); (case zz384xd => assumption); (case zz384xf => omega); k_whole); intro h' o' F' N' dc'; (try dsimp only at N' dc' F'); (try k_sweep))
  k_with "newTuple" => (k_here; k_dflt (refine' kup_newTuple ?zz385xF ?zz385xN ?_ ?zz385xz; (case zz385xF => k_asm); (case zz385xN => k_asm); (case zz385xz => kmk_size)); intro D' h' F' N' l1; (try (k_dflt (have nd' := nd_cons l1 (by assumption)))); (try clear l1); (try k_sweep))
  k_with "newList" => (k_here; k_dflt (refine' newList_K ?zz386xk1 ?zz386xk2 ?_; (case zz386xk1 => k_asm); (case zz386xk2 => k_asm); k_whole); intro l' h' F' N' l1; (try (k_dflt (have nd' := nd_cons l1 (by assumption)))); (try clear l1); (try k_sweep))
  k_with "eval Dict" => (k_here; kdn_look; k_dflt (refine' kdn_str ?zz387xq ?zz387xF ?zz387xN ?zz387xb ?zz387xa ?zz387xl ?zz387xe ?zz387xn ?_; (case zz387xq => rfl); (case zz387xF => k_asm); (case zz387xN => k_asm); (case zz387xb => exact Top.nolimit (by k_asm)); (case zz387xa => rfl); (case zz387xl => rfl); (case zz387xe => exact List.cons_ne_nil _ _); (case zz387xn => exact Nat.le_of_ble_eq_true rfl)); intro d' h' o' F' N' l1 lo' hd'; (try (k_dflt (have nd' := nd_cons l1 (by assumption)))); clear l1)
  k_with "eval Dict nil nil" => (k_here; k_dflt (refine' newDict_K ?zz388xk1 ?zz388xk2 (TopRead.nolimit (by k_asm)) ?_; (case zz388xk1 => k_asm); (case zz388xk2 => k_asm); k_whole); intro d' h' o' F' N' l1 lo' hs' fs' hi' fi'; (try (k_dflt (have nd' := nd_cons l1 (by assumption)))); clear l1; (try k_sweep))
  k_with "eval Name" => (k_here; (with_reducible show wpAny _ _ (eval (Expr.Name _ _) (envOf _ _ _ _ _)) _ _ _); k_dflt (refine' ldE ?zz389xk1 ?zz389xk2 ?zz389xk3 ?zz389xk4 ?zz389xk5 ?_; (case zz389xk1 => k_asm); (case zz389xk2 => assumption); (case zz389xk3 => exact rfl); (case zz389xk4 => exact rfl); (case zz389xk5 => decide); k_whole))
  k_with "eval Name" => (k_here; (with_reducible show wpAny _ _ (eval (Expr.Name _ _) (envOfC _ _ _ _ _)) _ _ _); k_dflt (refine' ldC ?zz390xk1 ?zz390xk2 ?zz390xk3 ?zz390xk4 ?zz390xk5 ?_; (case zz390xk1 => k_asm); (case zz390xk2 => assumption); (case zz390xk3 => exact rfl); (case zz390xk4 => exact rfl); (case zz390xk5 => decide); k_whole))
  k_with "eval Name" => (k_here; (with_reducible show wpAny _ _ (eval (Expr.Name _ _) (compEnvC _ _ _ _)) _ _ _); k_dflt (first | (refine' ldVarK (Fr.ns ?zz391xF) ?zz391xhv ?_; (case zz391xF => k_asm); (case zz391xhv => assumption)) | (refine kcf_cell (by k_asm) (by rfl) (by k_mem) (by k_asm) ?_)))
  k_with "eval ListComp" => (k_here; k_dflt (refine' compQ ?zz392xF0 ?zz392xhh ?zz392xa ?zz392xb ?zz392xc ?zz392xd ?zz392xe ?_ ?zz392xf; (case zz392xF0 => k_asm); (case zz392xhh => exact rfl); (case zz392xa => exact rfl); (case zz392xb => decide); (case zz392xc => exact rfl); (case zz392xd => decide); (case zz392xe => exact rfl); (case zz392xf => intro _; exact rfl); k_whole))
  k_with "call builtin:sorted" => (k_here; k_dflt (refine' kdu_sortedD (knd := PySem.strKind _ _) (enc := PyData.str) (fun _ _ => kdl_flat_str) ?zz393xhh ?zz393xF ?zz393xN ?zz393xT ?zz393xu ?_; (case zz393xhh => exact rfl); (case zz393xF => k_asm); (case zz393xN => k_asm); (case zz393xT => exact TabAt.ofNews (by k_asm) (by k_mem) (by k_asm) (by k_asm) (by k_asm)); (case zz393xu => k_units)); intro D' h' tk'; kdl_open)
  k_with "call builtin:list.sort" => (k_here; k_dflt (refine' sort_one ?zz394xF ?zz394xN ?zz394xU ?_; (case zz394xF => k_asm); (case zz394xN => k_asm); (case zz394xU => k_updF)); intro c' h' F' N'; (try dsimp only at N' F'))
  k_with "subscriptTail" => (k_here; (with_reducible show wpAny _ _ (subscriptTail _ _ (Value.ref _) (Value.int 0 _)) _ _ _); k_dflt (refine' lad_get ?zz395xa ?zz395xb ?zz395xc ?_ ?zz395xs; (case zz395xa => k_asm); (case zz395xb => k_updF); (case zz395xc => assumption); (case zz395xs => with_unfolding_all rfl); k_whole; intro t'))
  k_with "subscriptTail" => (k_here; (with_reducible show wpAny _ _ (subscriptTail _ _ (Value.ref _) (Value.int _ _)) _ _ _); k_dflt (refine' tup2_at ?zz396xN ?zz396xm ?zz396xa ?zz396xb ?zz396xs ?_ ?_; (case zz396xN => k_asm); (case zz396xm => k_mem); (case zz396xa => omega); (case zz396xb => omega); (case zz396xs => (intro _; with_unfolding_all rfl))); intro rz')
  k_with "CompQ" => (k_dflt (first
  | (refine CompQ.none (by k_asm) (by k_asm) (Src1.dict0 (by k_mem) (by assumption) (by assumption)) ?_; (intro D0 c its h' tk' hits' F' N' hne'); subst hits'; (try (have nd' := nd_consN hne' (by assumption))))
  | (refine CompQ.all (rv := Str.ofString "f.1") (by k_asm) (by k_asm) (Src1.dict1 (by k_mem) (by assumption : Obj.IsDictOf _ _ [(_, Value.str (Str.ofString "f.1") _)]) (by assumption)) ?_ ?_; (focus (intro C s₃ m₃ tk' E' F₃ N₃ hx')); rotate_left; (intro D0 c its h' tk' hits' F' N' hne'); (obtain ⟨tq', hq'⟩ := hits'); subst hq'; (try (have nd' := nd_consN hne' (by assumption))); rotate_left)
  | (refine CompQ.all (rv := Str.ofString "") (by k_asm) (by k_asm) (Src1.dict1 (by k_mem) (by assumption : Obj.IsDictOf _ _ [(_, Value.str (Str.ofString "") _)]) (by assumption)) ?_ ?_; (focus (intro C s₃ m₃ tk' E' F₃ N₃ hx')); rotate_left; (intro D0 c its h' tk' hits' F' N' hne'); (obtain ⟨tq', hq'⟩ := hits'); subst hq'; (try (have nd' := nd_consN hne' (by assumption))); rotate_left)); (try dsimp only))
  k_with "rung!" => (refine Stop.off ?_; k_dflt (refine' rung_c ?zz398xB ?zz398xF ?zz398xKX ?zz398xT ?zz398xhk ?zz398xN ?zz398xhd ?zz398xhu ?zz398xq1 ?zz398xq2 ?zz398xq3 ?zz398xq4 ?zz398xq5 ?zz398xq6 ?zz398xq7 ?_; (case zz398xB => k_asm); (case zz398xF => k_asm); (case zz398xKX => k_asm); (case zz398xT => k_asm); (case zz398xhk => first | exact rfl | assumption); (case zz398xN => k_asm); (case zz398xhd => ktr_room); (case zz398xhu => ktr_units); (case zz398xq1 => k_updF); (case zz398xq2 => assumption); (case zz398xq3 => omega); (case zz398xq4 => omega); (case zz398xq5 => omega); (case zz398xq6 => omega); (case zz398xq7 => omega); k_whole))
  k_with "rec!" => (refine Stop.off ?_; k_dflt (refine' rec_c ?zz399xq1 ?zz399xq2 ?zz399xB ?zz399xF ?zz399xKX ?zz399xT ?zz399xhk ?zz399xN ?zz399xnd ?zz399xhd ?zz399xhu ?_; (case zz399xB => k_asm); (case zz399xF => k_asm); (case zz399xKX => k_asm); (case zz399xT => k_asm); (case zz399xhk => first | exact rfl | assumption); (case zz399xN => k_asm); (case zz399xhd => ktr_room); (case zz399xhu => ktr_units); (case zz399xq1 => k_mem); (case zz399xq2 => k_mem); (case zz399xnd => assumption); k_whole))
  k_with "typ!" => (refine Stop.off ?_; k_dflt (refine' type_c ?zz400xB ?zz400xF ?zz400xKX ?zz400xT ?zz400xhk ?zz400xN ?zz400xnd ?zz400xhd ?zz400xhu ?_; (case zz400xB => k_asm); (case zz400xF => k_asm); (case zz400xKX => k_asm); (case zz400xT => k_asm); (case zz400xhk => first | exact rfl | assumption); (case zz400xN => k_asm); (case zz400xhd => ktr_room); (case zz400xhu => ktr_units); (case zz400xnd => assumption); k_whole))
  k_with "sub!" => (refine Stop.off ?_; k_dflt (refine' sub_c ?zz401xB ?zz401xF ?zz401xKX ?zz401xT ?zz401xhk ?zz401xN ?zz401xnd ?zz401xhd ?zz401xhu ?_; (case zz401xB => k_asm); (case zz401xF => k_asm); (case zz401xKX => k_asm); (case zz401xT => k_asm); (case zz401xhk => first | exact rfl | assumption); (case zz401xN => k_asm); (case zz401xhd => ktr_room); (case zz401xhu => ktr_units); (case zz401xnd => assumption); k_whole))
  k_with "ent!" => (refine Stop.off ?_; k_dflt (refine' ent_c ?zz402xB ?zz402xF ?zz402xKX ?zz402xT ?zz402xhk ?zz402xN ?zz402xnd ?zz402xhd ?zz402xhu ?_; (case zz402xB => k_asm); (case zz402xF => k_asm); (case zz402xKX => k_asm); (case zz402xT => k_asm); (case zz402xhk => first | exact rfl | assumption); (case zz402xN => k_asm); (case zz402xhd => ktr_room); (case zz402xhu => ktr_units); (case zz402xnd => assumption); k_whole))
  k_with "note!" => (refine Stop.off ?_; k_dflt (refine' note_h ?zz403xq1 ?zz403xq2 ?zz403xq3 ?zz403xq4 ?zz403xq5 ?zz403xq6 ?zz403xq7 ?zz403xq8 ?zz403xq9 ?zz403xq10 ?zz403xB ?zz403xF ?zz403xKX ?zz403xT ?zz403xhk ?zz403xN ?zz403xnd ?zz403xU ?zz403xhd ?zz403xhu ?_; (case zz403xB => k_asm); (case zz403xF => k_asm); (case zz403xKX => k_asm); (case zz403xT => k_asm); (case zz403xhk => first | exact rfl | assumption); (case zz403xN => k_asm); (case zz403xhd => ktr_room); (case zz403xhu => ktr_units); (case zz403xq1 => k_mem); (case zz403xq2 => k_mem); (case zz403xq3 => assumption); (case zz403xq4 => first | assumption | exact Home.sub (by assumption) (by intro p hp; repeat (first | exact hp | apply List.Mem.tail))); (case zz403xq5 => assumption); (case zz403xq6 => assumption); (case zz403xnd => assumption); (case zz403xU => k_updF); (case zz403xq7 => omega); (case zz403xq8 => omega); (case zz403xq9 => omega); (case zz403xq10 => omega); k_whole))
  k_with "dr!" => (refine Stop.off ?_; k_dflt (refine' dr_c ?zz404xhe0 ?zz404xhrr0 ?zz404xhrr ?zz404xrs ?zz404xhe ?zz404xae ?zz404xhh ?zz404xhincl ?zz404xcns ?zz404xloc ?zz404xns ?zz404xhfr ?zz404xlon ?zz404xhit ?zz404xhb ?zz404xhkd ?zz404xhnm ?zz404xP1 ?zz404xP2 ?zz404xP3 ?zz404xP4 ?zz404xP5 ?zz404xB ?zz404xF ?zz404xKX ?zz404xT ?zz404xhk ?zz404xN ?zz404xnd ?zz404xhd ?zz404xhu ?_; (case zz404xB => k_asm); (case zz404xF => k_asm); (case zz404xKX => k_asm); (case zz404xT => k_asm); (case zz404xhk => first | exact rfl | assumption); (case zz404xN => k_asm); (case zz404xhd => ktr_room); (case zz404xhu => ktr_units); (case zz404xhe0 => k_mem); (case zz404xhrr0 => k_mem); (case zz404xrs => assumption); (case zz404xhh => assumption); (case zz404xcns => assumption); (case zz404xloc => assumption); (case zz404xns => assumption); (case zz404xhfr => assumption); (case zz404xlon => assumption); (case zz404xP1 => repeat (first | exact Pull.head | apply Pull.tail)); (case zz404xP2 => repeat (first | exact Pull.head | apply Pull.tail)); (case zz404xP3 => repeat (first | exact Pull.head | apply Pull.tail)); (case zz404xP4 => repeat (first | exact Pull.head | apply Pull.tail)); (case zz404xP5 => repeat (first | exact Pull.head | apply Pull.tail)); (case zz404xhincl => intro p hp; repeat (first | exact hp | apply List.Mem.tail)); (case zz404xhrr => k_mem); (case zz404xhe => k_mem); (case zz404xae => first | assumption | (refine Attrs.pick (by assumption) ?_; repeat' (first | exact List.forall_mem_nil _ | refine List.forall_mem_cons.mpr ⟨rfl, ?_⟩))); (case zz404xhit => first | assumption | omega); (case zz404xhb => omega); (case zz404xhkd => first | rfl | decide); (case zz404xhnm => assumption); (case zz404xnd => assumption); k_whole))
  k_with "call ref" => (k_here; refine Stop.on ?_)
  k_with "eval IfExp" => (k_here; refine Stop.on ?_)
  k_with "exec If" => (k_here; refine Stop.on ?_)
  k_with "exec Return some" => (k_here; refine Stop.on ?_)
  trivial



theorem ltype_c {w : World} {mean : ExcName → Option Value} {mg mb : Str → Option Value}
    {dp un : Nat} {gd : Option (List Code)} {cn : Str} {cs : Scope} {a : Addr} {ccd : Value} {cl : List (Str × Addr)} {outer : List Env} {A₀ : Around} {base h₀ : Heap} {L : Addr} {m : Str → Option Value} {news : List (Addr × Obj)} {s : Shared}
    {Q E : Value → Shared → Prop} {ld rr drr : Addr} {ol odrr oc ot on : Obj} {rnrr rorr ca ta na oa : Addr} {r : Addr} {k : Int} {n b co : Nat} {items : Array Value} {ft : Int → Option Value} {fresh : Str → Prop} {nm : Str} {tn : Tok}
    (hl : Lad ol k n) (hn : n ≤ 64) (h0 : 0 ≤ k) (h1 : k ≤ 900) (hrr : (rr, instObj 113 drr) ∈ news) (rs : RootS b rr rnrr rorr ca ta odrr) (hh : Home news rr r rnrr rorr na oa) (cns : CntS w b oc) (loc : (ca == sysModules) = false) (hs : HomS w b k ot ft) (lot : (ta == sysModules) = false)
    (ns : NamS w b on fresh) (hfr : fresh nm) (lon : (na == sysModules) = false) (hit : items.size ≤ 900) (hb : b ≤ 800) (hnm : Nice nm)
    (B : Below A₀ base outer h₀) (F : Fr h₀ L s.heap m) (KX : (Mine.K w.params).In h₀) (T : Top Mine.q0 (looseW Mine.q0 [Str.ofString "Limits"]) mean mg mb h₀) (hk : cs.kind = .function) (N : News h₀ L s.heap ((ld, ol) :: (drr, odrr) :: (ca, oc) :: (ta, ot) :: (na, on) :: (oa, PySem.W.listOf items co) :: news)) (nd : (((ld, ol) :: (drr, odrr) :: (ca, oc) :: (ta, ot) :: (na, on) :: (oa, PySem.W.listOf items co) :: news).map Prod.fst).Nodup) (hd : dp + 60 < recursionLimit) (hu : un + 1000 < cLine)
    (hret : ∀ e v ol' odrr' oc' ot' on' c' ext k' ft' h' tks, Fr h₀ L h' m → News h₀ L h' ((ld, ol') :: (drr, odrr') :: (ca, oc') :: (ta, ot') :: (na, on') :: (oa, PySem.W.listOf (items.push (.ref e)) c') :: (ext ++ news)) → (((ld, ol') :: (drr, odrr') :: (ca, oc') :: (ta, ot') :: (na, on') :: (oa, PySem.W.listOf (items.push (.ref e)) c') :: (ext ++ news)).map Prod.fst).Nodup → k ≤ k' → k' ≤ k + 6 → Lad ol' k' n → RootS (b + 1) rr rnrr rorr ca ta odrr' →
      CntS w (b + 1) oc' → HomS w (b + 1) k' ot' ft' → (∀ j v, ft j = some v → ft' j = some v) → NamS w (b + 1) on' (fun x => fresh x ∧ x ≠ nm) → (∀ P, EntW w P ext ft' r e v) → Q (.bool v) { s with heap := h', toks := tks }) :
    wpAny (model PySem.Challenge.rw_rg0009_01.row.prog w) (ktrTop dp un gd cn cs L a ccd cl outer) (call (.ref 322) [.ref ld, .ref r, .str nm tn]) Q E s := by
  (try w_top off); revert KX; k_fill; intro KX
  refine wpAny_call ?_
  (k_extra "ENTER")
  have nd2 := nd_cons (d := L' + 1) (fun p hp => Nat.lt_succ_of_lt (l1 p hp)) nd
  clear l1
  k_steps
  walk_at "rung!"
  intro r1 tr1 ol1 h1' tk1 F1 N1 ld1 r1a r1b; (try dsimp only at N1); k_sweep; (try dsimp only)
  k_steps
  walk_at "rung!"
  intro r2 tr2 ol2 h2' tk2 F2 N2 ld2 r2a r2b; (try dsimp only at N2); k_sweep; (try dsimp only)
  k_steps
  walk_at "rung!"
  intro r3 tr3 ol3 h3' tk3 F3 N3 ld3 r3a r3b; (try dsimp only at N3); k_sweep; (try dsimp only)
  clear ld1 ld2
  k_steps
  refine Stop.off ?_
  refine join_made 271 28 (fun _ => none) (by k_asm) (News.tl (by k_asm)) ?_ ?_
  · refine IfExp_ ?_
    k_steps
    all_goals first | walk_at "rec!" | walk_at "typ!"
    all_goals (intro t dt ot2 h4 tk4 F4 N4 nd4 a4; k_sweep; (try dsimp only); k_steps)
    all_goals exact MadeR.intro (by k_asm) (by ktr_rel) (nd_of (by assumption) (by simp only [List.map_cons]; repeat (first | exact List.Sublist.refl _ | apply List.Sublist.cons_cons | apply List.Sublist.cons))) (Attrs.le (Attrs.anon (by assumption)) (by decide))
  intro t dt ot1 h4 tk4 F4 N4 nd4 a4; k_sweep; (try dsimp only)
  k_steps
  walk_at "note!"
  intro ot3 tp pt tpt h5 tk5 F5 N5 nd5 hs5 hf5; (try dsimp only at N5 nd5); k_sweep; (try dsimp only)
  k_steps
  walk_at "sub!"
  intro su dsu osu h6 tk6 F6 N6 nd6 a6; k_sweep; (try dsimp only)
  k_steps
  walk_at "ent!"
  intro e de oe uq nb pa h7 tk7 F7 N7 nd7 a7; k_sweep; (try dsimp only)
  k_steps
  refine Stop.off ?_
  refine join_ (fun v s' => Hold (∃ od oo bad ol5 k5 oe2 ot4 cX m8 h8 tk8 tj, v = Value.ref od ∧ s' = { s with heap := h8, toks := tk8 } ∧ Fr g' L' h8 m8 ∧ m8 (Str.ofString "ladder") = some (Value.ref ld) ∧ m8 (Str.ofString "region") = some (Value.ref r) ∧ m8 (Str.ofString "name") = some (Value.str nm tn) ∧ m8 (Str.ofString "is_tagged") = some (Value.bool (decide (0 < r1))) ∧ m8 (Str.ofString "is_abstract") = some (Value.bool (r2 == 1)) ∧ m8 (Str.ofString "way") = some (Value.int r3 tr3) ∧ m8 (Str.ofString "entity") = some (Value.ref e) ∧
    News g' L' h8 ((od, oo) :: (e, instObj 77 de) :: (de, oe2) :: (su, instObj 292 dsu) :: (dsu, osu) :: (tp, tupObj r pt tpt) :: (t, instObj 271 dt) :: (dt, ot4) :: (L' + 1, cX) :: (ld, ol5) :: (drr, odrr) :: (ca, oc) :: (ta, ot3) :: (na, on) :: (oa, PySem.W.listOf items co) :: news) ∧ (((od, oo) :: (e, instObj 77 de) :: (de, oe2) :: (su, instObj 292 dsu) :: (dsu, osu) :: (tp, tupObj r pt tpt) :: (t, instObj 271 dt) :: (dt, ot4) :: (L' + 1, cX) :: (ld, ol5) :: (drr, odrr) :: (ca, oc) :: (ta, ot3) :: (na, on) :: (oa, PySem.W.listOf items co) :: news).map Prod.fst).Nodup ∧ OpsIs w oo bad ∧ (od == sysModules) = false ∧
    Lad ol5 k5 n ∧ k + 1 + 1 + 1 + 1 ≤ k5 ∧ k5 ≤ k + 5 ∧ Attrs 31 ot4 (fun y => if y = "is_abstract" then some (Value.bool (r2 == 1)) else if y = "is_tagged" then some (Value.bool (decide (0 < r1))) else if y = "number" then some (Value.int (100 + (k + 1 + 1 + 1)) tj) else none) ∧ Attrs 17 oe2 (at_ (entL "type" tk5 nm tn (.ref su) 4 tk6 .none .none true false .none uq nb pa)) ∧ cX.data = Data.cell (some (Value.ref t)))) ?_ ?_
  · refine IfExp_ ?_
    k_steps
    walk_at "rung!"
    intro r4 tr4 ol4 h8 tk8 F8 N8 ld4 r4a r4b; (try dsimp only at N8); k_sweep; (try dsimp only)
    clear ld3
    k_steps
    all_goals (try (walk_at "rung!"; intro r5 tr5 ol5 h9 tk9 F9 N9 ld5 r5a r5b; (try dsimp only at N9); k_sweep; (try dsimp only); clear ld4; k_steps))
    all_goals first
      | exact ⟨_, _, _, _, _, _, _, _, _, _, _, _, rfl, rfl, by k_asm, by exact rfl, by exact rfl, by exact rfl, by exact rfl, by exact rfl, by exact rfl, by exact rfl, by ktr_rel, nd_of (by assumption) (by simp only [List.map_cons]; repeat (first | exact List.Sublist.refl _ | apply List.Sublist.cons_cons | apply List.Sublist.cons)), by first | exact OpsIs.none (by assumption) | exact OpsIs.told (by assumption) | exact OpsIs.open (by assumption), by assumption, by assumption, by omega, by omega, by assumption, by first | assumption | (refine Attrs.pick (by assumption) ?_; repeat' (first | exact List.forall_mem_nil _ | refine List.forall_mem_cons.mpr ⟨rfl, ?_⟩)), by assumption⟩
  rintro _ _ ⟨od, oo, bad, ol5, k5, oe2, ot4, cX, m8, h8, tk8, tj, rfl, rfl, F8, e1, e2, e3, e4, e5, e6, e7, N8, nd8, ops, lod, ld8, kk1, kk2, at8, ae8, c8⟩
  dsimp only
  clear nd2 nd4 nd5 nd6 nd7 ld3
  k_steps
  refine Stop.off ?_
  refine exec_If_ (fun fl s' => Hold (fl = Flow.next ∧ ∃ h9 tk9 m9 oe3 full ab su2 ext2 ot5, s' = { s with heap := h9, toks := tk9 } ∧ Fr g' L' h9 m9 ∧ m9 (Str.ofString "ladder") = some (Value.ref ld) ∧ m9 (Str.ofString "region") = some (Value.ref r) ∧ m9 (Str.ofString "is_tagged") = some (Value.bool (decide (0 < r1))) ∧ m9 (Str.ofString "is_abstract") = some (Value.bool ab) ∧ m9 (Str.ofString "entity") = some (Value.ref e) ∧
    News g' L' h9 ((L' + 1, cX) :: (ld, ol5) :: (drr, odrr) :: (ca, oc) :: (ta, ot3) :: (na, on) :: (oa, PySem.W.listOf items co) :: (de, oe3) :: (ext2 ++ news)) ∧ (((L' + 1, cX) :: (ld, ol5) :: (drr, odrr) :: (ca, oc) :: (ta, ot3) :: (na, on) :: (oa, PySem.W.listOf items co) :: (de, oe3) :: (ext2 ++ news)).map Prod.fst).Nodup ∧ Attrs 17 oe3 (at_ (entL "type" tk5 nm tn (.ref su) 4 tk6 .none full true false .none uq nb pa)) ∧ (Value.ref su = Value.ref su2 ∧ full = Value.none ∨ full = Value.ref su2) ∧
    TyAt w ext2 su2 (decide (0 < r1)) ab bad (100 + (k + 1 + 1 + 1)) ∧ handedIn full = true ∧ (e, instObj 77 de) ∈ ext2 ∧ (tp, tupObj r pt tpt) ∈ ext2 ∧ (t, instObj 271 dt) ∈ ext2 ∧ (dt, ot5) ∈ ext2 ∧ Attrs 40 ot5 (at_ [("operations", Value.ref od)]) ∧ (od, oo) ∈ ext2)) ?_ ?_ (fun _ _ x => (show _ ∧ _ from x).1)
  · refine wpAny_If ?_
    k_steps
    all_goals try (walk_at "rec!"; intro f df of1 h9 tk9 F9 N9 nd9 a9; k_sweep; (try dsimp only); k_steps; walk_at "sub!"; intro fs fds fos h10 tk10 F10 N10 nd10 a10; k_sweep; (try dsimp only); k_steps)
    all_goals first
      | exact ⟨rfl, _, _, _, _, _, _, su, (od, oo) :: (e, instObj 77 de) :: (su, instObj 292 dsu) :: (dsu, osu) :: (tp, tupObj r pt tpt) :: (t, instObj 271 dt) :: (dt, _) :: [], _, rfl, by k_asm, by first | assumption | exact rfl, by first | assumption | exact rfl, by first | assumption | exact rfl, by first | assumption | exact rfl, by first | assumption | exact rfl, by (simp only [List.cons_append, List.nil_append]; ktr_rel), nd_sp (by assumption) (by simp only [List.cons_append, List.nil_append, List.map_cons]; repeat (first | exact SubP.refl | exact SubP.nil | (apply SubP.cons; focus (repeat (first | exact PullA.head | apply PullA.tail))) | apply SubP.drop)), (by refine Attrs.pick (by assumption) ?_; repeat' (first | exact List.forall_mem_nil _ | refine List.forall_mem_cons.mpr ⟨rfl, ?_⟩)), .inl ⟨rfl, rfl⟩,
          ⟨t, dsu, osu, dt, _, od, oo, _, by k_mem, by k_mem, by assumption, by k_mem, by k_mem, (by refine Attrs.le (Attrs.pick (by assumption) ?_) (by decide); repeat' (first | exact List.forall_mem_nil _ | refine List.forall_mem_cons.mpr ⟨rfl, ?_⟩)), by k_mem, by assumption, by assumption⟩, rfl, by k_mem, by k_mem, by k_mem, by k_mem, (by refine Attrs.le (Attrs.pick (by assumption) ?_) (by decide); repeat' (first | exact List.forall_mem_nil _ | refine List.forall_mem_cons.mpr ⟨rfl, ?_⟩)), by k_mem⟩
      | exact ⟨rfl, _, _, _, _, _, _, fs, (fs, instObj 292 fds) :: (fds, fos) :: (f, instObj 271 df) :: (df, _) :: (od, oo) :: (e, instObj 77 de) :: (su, instObj 292 dsu) :: (dsu, osu) :: (tp, tupObj r pt tpt) :: (t, instObj 271 dt) :: (dt, _) :: [], _, rfl, by k_asm, by first | assumption | exact rfl, by first | assumption | exact rfl, by first | assumption | exact rfl, by first | assumption | exact rfl, by first | assumption | exact rfl, by (simp only [List.cons_append, List.nil_append]; ktr_rel), nd_sp (by assumption) (by simp only [List.cons_append, List.nil_append, List.map_cons]; repeat (first | exact SubP.refl | exact SubP.nil | (apply SubP.cons; focus (repeat (first | exact PullA.head | apply PullA.tail))) | apply SubP.drop)), (by refine Attrs.pick (by assumption) ?_; repeat' (first | exact List.forall_mem_nil _ | refine List.forall_mem_cons.mpr ⟨rfl, ?_⟩)), .inr rfl,
          ⟨f, fds, fos, df, _, od, oo, _, by k_mem, by k_mem, by assumption, by k_mem, by k_mem, (by refine Attrs.le (Attrs.pick (by assumption) ?_) (by decide); repeat' (first | exact List.forall_mem_nil _ | refine List.forall_mem_cons.mpr ⟨rfl, ?_⟩)), by k_mem, by assumption, by assumption⟩, rfl, by k_mem, by k_mem, by k_mem, by k_mem, (by refine Attrs.le (Attrs.pick (by assumption) ?_) (by decide); repeat' (first | exact List.forall_mem_nil _ | refine List.forall_mem_cons.mpr ⟨rfl, ?_⟩)), by k_mem⟩
  rintro _ ⟨_, h9, tk9, m9, oe3, full, ab, su2, ext2, ot5, rfl, F9, g1, g2, g4, g5, g7, N9, nd9, ae9, hfull, hty, hhf, me0, mtp0, mt0, mdt0, at9, mod0⟩
  obtain ⟨news2, hn2⟩ : ∃ n2, n2 = ext2 ++ news := ⟨_, rfl⟩
  rw [← hn2] at N9 nd9
  have up : ∀ p ∈ ext2, p ∈ news2 := fun p hp => by rw [hn2]; exact List.mem_append_left _ hp
  have hsub : ∀ p ∈ news, p ∈ news2 := fun p hp => by rw [hn2]; exact List.mem_append_right _ hp
  have me := up _ me0; have mtp := up _ mtp0; have mt := up _ mt0; have mdt := up _ mdt0; have mod := up _ mod0
  dsimp only
  clear e1 e2 e3 e4 e5 e6 e7 nd8 at8 ae8 a7 a6 a4 r2a r2b r3a r3b
  have hh2 := hh.sub hsub
  have hrr2 := hsub _ hrr
  generalize htg : decide (0 < r1) = tg at *
  clear htg r1a r1b hh
  k_steps
  walk_at "dr!"
  intro oe4 odrr' oc' on' uq' nb' pa' c' h10 tk10 F10 N10 nd10 ae10 rs' cns' ns'; (try dsimp only at N10); k_sweep; (try dsimp only)
  clear nd9
  k_steps
  walk_at "rung!"
  intro r6 tr6 ol6 h11 tk11 F11 N11 ld11 r6a r6b; (try dsimp only at N11); k_sweep; (try dsimp only)
  k_steps
  refine Stop.off ?_
  refine wpAny_Return_some ?_
  have ae12 : Attrs 18 _ (at_ (entL "type" tk5 nm tn (.ref su) 4 tk6 .none full true (r6 == 5) (.ref r) uq' nb' pa')) := (by refine Attrs.pick (by assumption) ?_; repeat' (first | exact List.forall_mem_nil _ | refine List.forall_mem_cons.mpr ⟨rfl, ?_⟩))
  generalize (r6 == 5) = bi at *
  have fin : ∀ (v : Bool) (h' : Heap) (tks : Nat) (oe5 : Obj), Attrs 18 oe5 (at_ (entL "type" tk5 nm tn (.ref su) 4 tk6 .none full true bi (.ref r) uq' nb' pa')) → Fr h₀ L h' m → News h₀ L h' ((ld, ol6) :: (drr, odrr') :: (ca, oc') :: (ta, ot3) :: (na, on') :: (oa, PySem.W.listOf (items.push (.ref e)) c') :: (de, oe5) :: news2) → v = (bi || (!tg || ab || !bad)) → Q (.bool v) { s with heap := h', toks := tks } := by
    intro v h' tks oe5 a5 F5 N5 hv
    subst hn2
    refine hret e v _ _ _ _ _ _ ((de, oe5) :: ext2) _ _ _ _ F5 N5 (nd_sp nd10 (by simp only [List.map_cons]; repeat (first | exact SubP.refl | exact SubP.nil | (apply SubP.cons; focus (repeat (first | exact PullA.head | apply PullA.tail))) | apply SubP.drop))) ?_ ?_ ld11 rs' cns' (hs5.le ?_) hf5 ns' (fun P => ?_)
    · omega
    · omega
    · omega
    · refine ⟨de, _, _, _, _, _, _, _, _, _, _, _, _, _, _, _, .tail _ me0, .head _, a5, ?_⟩
      cases bi with
      | true => rw [hv]; exact .impl
      | false =>
        have e9 : v = (!tg || ab || !bad) := hv.trans (Bool.false_or _)
        rw [e9]
        exact .ty (.ref su) hfull rfl rfl (hty.sub fun p hp => .tail _ hp) (if_pos rfl) (.tail _ mtp0)
  clear hret
  cases bi with
  | true =>
    k_steps
    all_goals first | exact fin _ _ _ _ (by assumption) (by k_asm) (by ktr_rel) rfl | exact ⟨_, _, rfl, fun _ _ e => e⟩
  | false =>
    cases tg with
    | false =>
      k_steps
      all_goals first | exact fin _ _ _ _ (by assumption) (by k_asm) (by ktr_rel) rfl | exact ⟨_, _, rfl, fun _ _ e => e⟩
    | true =>
      cases ab with
      | true =>
        k_steps
        all_goals first | exact fin _ _ _ _ (by assumption) (by k_asm) (by ktr_rel) rfl | exact ⟨_, _, rfl, fun _ _ e => e⟩
      | false =>
        rcases ops with hops | @⟨t0, hops⟩ | @⟨t0, hops⟩
        · k_steps
          all_goals first | exact fin _ _ _ _ (by assumption) (by k_asm) (by ktr_rel) rfl | exact ⟨_, _, rfl, fun _ _ e => e⟩
        · have dfl := flat1 hops
          k_steps
          all_goals first | exact fin _ _ _ _ (by assumption) (by k_asm) (by ktr_rel) rfl | exact ⟨_, _, rfl, fun _ _ e => e⟩
        · have dfl := flat1 hops
          k_steps
          all_goals first | exact fin _ _ _ _ (by assumption) (by k_asm) (by ktr_rel) rfl | exact ⟨_, _, rfl, fun _ _ e => e⟩

end Mine
end
section
open PySem PySem.W PyProof.Rows
namespace Mine
theorem ln31 : True := by
  k_with_none
  k_with "ENTER" => (first | (refine' code_def ?zz426xk1 ?zz426xk2 ?zz426xk3 ?zz426xk4 ?zz426xk5 ?zz426xkA ?zz426xkF ?zz426xkK ?zz426xk6 ?zz426xk7 ?zz426xk8 ?zz426xk9 ?zz426xkB ?_ ?zz426xc2 ?zz426xc3 ?zz426xc4 ?zz426xc5; (case zz426xkA => exact rfl); (case zz426xkF => exact rfl); (case zz426xkK => first | exact rfl | assumption); (case zz426xk1 => k_asm); (case zz426xk2 => k_asm); (case zz426xk3 => k_asm); (case zz426xk4 => k_asm); (case zz426xk5 => k_asm); (case zz426xk6 => k_is); (case zz426xk7 => k_is); (case zz426xk8 => ktr_room); (case zz426xk9 => first | exact BindsTo.of_eq (binds := []) rfl | exact BindsTo.of_eq (binds := [(_, _)]) rfl | exact BindsTo.of_eq (binds := [(_, _), (_, _)]) rfl | exact BindsTo.of_eq (binds := [(_, _), (_, _), (_, _)]) rfl | exact BindsTo.of_eq (binds := [(_, _), (_, _), (_, _), (_, _)]) rfl | exact BindsTo.of_eq (binds := [(_, _), (_, _), (_, _), (_, _), (_, _)]) rfl | exact BindsTo.of_eq (binds := [(_, _), (_, _), (_, _), (_, _), (_, _), (_, _)]) rfl | exact BindsTo.of_eq (binds := [(_, _), (_, _), (_, _), (_, _), (_, _), (_, _), (_, _)]) rfl | exact BindsTo.of_eq (binds := [(_, _), (_, _), (_, _), (_, _), (_, _), (_, _), (_, _), (_, _)]) rfl | exact BindsTo.of_eq (binds := [(_, _), (_, _), (_, _), (_, _), (_, _), (_, _), (_, _), (_, _), (_, _)]) rfl | exact BindsTo.of_eq (binds := [(_, _), (_, _), (_, _), (_, _), (_, _), (_, _), (_, _), (_, _), (_, _), (_, _)]) rfl | exact binds_K (by k_in) rfl (by k_is) rfl rfl rfl); (case zz426xc5 => decide); (case zz426xkB => exact locs rfl); (case zz426xc2 => exact rfl); (case zz426xc3 => exact rfl); (case zz426xc4 => exact rfl); k_whole; intro g' L' h' FG' F' N' B' X' T'; (try dsimp only); (try k_fold)) | (refine' code_defC ?zz426xk1 ?zz426xk2 ?zz426xk3 ?zz426xk4 ?zz426xk5 ?zz426xkA ?zz426xkF ?zz426xkK ?zz426xk6 ?zz426xk7 ?zz426xk8 ?zz426xk9 ?zz426xkB ?zz426xkD ?_ ?zz426xc2 ?zz426xc3 ?zz426xc4; (case zz426xkA => exact rfl); (case zz426xkF => exact rfl); (case zz426xkK => first | exact rfl | assumption); (case zz426xk1 => k_asm); (case zz426xk2 => k_asm); (case zz426xk3 => k_asm); (case zz426xk4 => k_asm); (case zz426xk5 => k_asm); (case zz426xk6 => k_is); (case zz426xk7 => k_is); (case zz426xk8 => ktr_room); (case zz426xk9 => first | exact BindsTo.of_eq (binds := []) rfl | exact BindsTo.of_eq (binds := [(_, _)]) rfl | exact BindsTo.of_eq (binds := [(_, _), (_, _)]) rfl | exact BindsTo.of_eq (binds := [(_, _), (_, _), (_, _)]) rfl | exact BindsTo.of_eq (binds := [(_, _), (_, _), (_, _), (_, _)]) rfl | exact BindsTo.of_eq (binds := [(_, _), (_, _), (_, _), (_, _), (_, _)]) rfl | exact BindsTo.of_eq (binds := [(_, _), (_, _), (_, _), (_, _), (_, _), (_, _)]) rfl | exact BindsTo.of_eq (binds := [(_, _), (_, _), (_, _), (_, _), (_, _), (_, _), (_, _)]) rfl | exact BindsTo.of_eq (binds := [(_, _), (_, _), (_, _), (_, _), (_, _), (_, _), (_, _), (_, _)]) rfl | exact BindsTo.of_eq (binds := [(_, _), (_, _), (_, _), (_, _), (_, _), (_, _), (_, _), (_, _), (_, _)]) rfl | exact BindsTo.of_eq (binds := [(_, _), (_, _), (_, _), (_, _), (_, _), (_, _), (_, _), (_, _), (_, _), (_, _)]) rfl | exact binds_K (by k_in) rfl (by k_is) rfl rfl rfl); (case zz426xkB => exact rfl); (case zz426xkD => decide +kernel); (case zz426xc2 => exact rfl); (case zz426xc3 => exact rfl); (case zz426xc4 => exact rfl); k_whole; intro g' L' h' tk' cells' FG' F' N' Y' B' X' T' l1; k_cells Y'; (try simp only [List.cons_append, List.nil_append] at N'); (try dsimp only); (try k_fold)))
  k_with "call ref" => (k_here; k_dflt (refine' mk_inst ?zz410xk1 ?zz410xk2 ?zz410xk3 ?zz410xk4 ?zz410xk5 ?zz410xk6 ?_; (case zz410xk1 => k_asm); (case zz410xk2 => k_asm); (case zz410xk3 => k_asm); (case zz410xk4 => k_is); (case zz410xk5 => k_is); (case zz410xk6 => k_is); k_whole; intro x' d' o' h' F' N' a' l1 l2; (have nd' := nd_cons2 l1 l2 (by assumption)); (try k_sweep); (k_extra "ENTER")))
  k_with "setAttr ref" => (k_here; k_dflt (refine' at_set ?zz411xk1 ?zz411xk2 ?zz411xk3 ?zz411xk4 ?zz411xk5 ?zz411xk6 ?zz411xk7 ?zz411xk8 ?zz411xk9 ?zz411xk10 ?zz411xk11 ?_; (case zz411xk1 => k_asm); (case zz411xk2 => k_asm); (case zz411xk3 => k_asm); (case zz411xk4 => k_mem); (case zz411xk5 => k_updF); (case zz411xk6 => assumption); (case zz411xk7 => k_is); (case zz411xk8 => k_is); (case zz411xk9 => k_is); (case zz411xk10 => k_is); (case zz411xk11 => exact Nat.le_of_ble_eq_true rfl); k_whole; intro h' o' F' N' a'; (try dsimp only at N' a' F'); (try k_sweep)))
  k_with "setAttr ref" => (k_here; k_dflt (refine' at_again ?zz412xk1 ?zz412xk2 ?zz412xk3 ?zz412xk4 ?zz412xk5 ?zz412xk6 ?zz412xk0 ?zz412xk7 ?zz412xk8 ?zz412xk9 ?zz412xk10 ?zz412xk11 ?_; (case zz412xk1 => k_asm); (case zz412xk2 => k_asm); (case zz412xk3 => k_asm); (case zz412xk4 => k_mem); (case zz412xk5 => k_updF); (case zz412xk6 => assumption); (case zz412xk0 => first | exact rfl | assumption); (case zz412xk7 => k_is); (case zz412xk8 => k_is); (case zz412xk9 => k_is); (case zz412xk10 => k_is); (case zz412xk11 => exact Nat.le_of_ble_eq_true rfl); k_whole; intro h' o' F' N' a'; (try dsimp only at N' a' F'); (try k_sweep)))
  k_with "getAttr ref" => (k_here; k_dflt (refine' at_get ?zz413xk1 ?zz413xk2 ?zz413xk3 ?zz413xk4 ?zz413xk5 ?zz413xk6 ?zz413xk7 ?zz413xk8 ?zz413xk9 ?zz413xk10 ?zz413xk11 ?zz413xk12 ?_; (case zz413xk1 => k_asm); (case zz413xk2 => k_asm); (case zz413xk3 => k_asm); (case zz413xk4 => k_mem); (case zz413xk5 => k_mem); (case zz413xk6 => assumption); (case zz413xk7 => first | exact rfl | assumption); (case zz413xk8 => k_is); (case zz413xk9 => k_is); (case zz413xk10 => k_is); (case zz413xk11 => k_is); (case zz413xk12 => k_handed); k_whole))
  k_with "call type:list" => (k_here; (with_reducible show wpAny _ _ (call (Value.type _) [Value.ref _]) _ _ _); (with_unfolding_all refine' list_copyK ?zz414xk1 ?zz414xk2 ?zz414xk3 ?_ ?zz414xz; (case zz414xk1 => k_asm); (case zz414xk2 => k_asm); (case zz414xk3 => exact News.isList (d := none) (sl := #[]) (by k_asm) (by k_mem)); (case zz414xz => size_fits); k_whole); intro D' c' h' F' N' l1; (have nd' := nd_cons l1 (by assumption)); (try k_sweep))
  k_with "compareOp Eq ref ref" => (k_here; (with_reducible show wpAny _ _ (compareOp CmpOp.Eq (Value.ref _) (Value.ref _)) _ _ _); k_dflt (refine' ke_eq_ints (xs := []) (ys := []) ?zz415xa ?zz415xb .nil .nil ?zz415xu ?_; (case zz415xa => exact News.isList (d := none) (sl := #[]) (items := #[]) (by k_asm) (by k_mem)); (case zz415xb => exact News.isList (d := none) (sl := #[]) (items := #[]) (by k_asm) (by k_mem)); (case zz415xu => ktr_units); k_whole))
  k_with "getMethod ref" => (k_here; k_dflt (first | ((with_reducible show wpAny _ _ (getMethod (Value.ref _) (Str.ofString "get") _) _ _ _); refine' dic_method (knd := PySem.strKind _ _) PySem.F.slot_dict_get PySem.F.type_dict_get ?zz416xa ?zz416xb ?zz416xc ?_; (case zz416xa => k_asm); (case zz416xb => k_mem); (case zz416xc => assumption); k_whole) | ((with_reducible show wpAny _ _ (getMethod (Value.ref _) (Str.ofString "get") _) _ _ _); refine' dic_method (knd := PySem.intKind _ _) PySem.F.slot_dict_get PySem.F.type_dict_get ?zz416xa ?zz416xb ?zz416xc ?_; (case zz416xa => k_asm); (case zz416xb => k_mem); (case zz416xc => assumption); k_whole) | ((with_reducible show wpAny _ _ (getMethod (Value.ref _) (Str.ofString "setdefault") _) _ _ _); refine' dic_method (knd := PySem.strKind _ _) PySem.F.slot_dict_setdefault PySem.F.type_dict_setdefault ?zz416xa ?zz416xb ?zz416xc ?_; (case zz416xa => k_asm); (case zz416xb => k_mem); (case zz416xc => assumption); k_whole) | ((with_reducible show wpAny _ _ (getMethod (Value.ref _) (Str.ofString "setdefault") _) _ _ _); refine' dic_method (knd := PySem.intKind _ _) PySem.F.slot_dict_setdefault PySem.F.type_dict_setdefault ?zz416xa ?zz416xb ?zz416xc ?_; (case zz416xa => k_asm); (case zz416xb => k_mem); (case zz416xc => assumption); k_whole)))
  k_with "call builtin:dict.get" => (k_here; k_dflt (first
  | (refine' dic_get2 (knd := PySem.strKind _ _) ?zz417xa ?zz417xb ?zz417xc ?zz417xd (strKind_is _ _ _ _) ?_; (case zz417xa => k_asm); (case zz417xb => k_mem); (case zz417xc => assumption); (case zz417xd => assumption); k_whole)
  | (refine' dic_get1 (knd := PySem.intKind _ _) ?zz417xa ?zz417xb ?zz417xc ?zz417xd (intKind_is _ _ _ _) ?_; (case zz417xa => k_asm); (case zz417xb => k_mem); (case zz417xc => assumption); (case zz417xd => assumption); k_whole)); (try simp only [Option.getD_none, Option.getD_some, *]))
  k_with "call builtin:dict.setdefault" => (k_here; k_dflt (first
  | (refine' dic_default (knd := PySem.strKind _ _) ?zz418xa ?zz418xb ?zz418xc ?zz418xd ?zz418xe (strKind_is _ _ _ _) ?zz418xf ?zz418xg ?_; (case zz418xa => k_asm); (case zz418xb => k_asm); (case zz418xc => k_updF); (case zz418xd => assumption); (case zz418xe => assumption); (case zz418xf => omega); (case zz418xg => assumption); k_whole)
  | (refine' dic_default (knd := PySem.intKind _ _) ?zz418xa ?zz418xb ?zz418xc ?zz418xd ?zz418xe (intKind_is _ _ _ _) ?zz418xf ?zz418xg ?_; (case zz418xa => k_asm); (case zz418xb => k_asm); (case zz418xc => k_updF); (case zz418xd => assumption); (case zz418xe => assumption); (case zz418xf => omega); (case zz418xg => assumption); k_whole)); intro h' o' F' N' dc'; (try dsimp only at N' dc' F'); (try k_sweep))
  k_with "setItem ref str" => (k_here; k_dflt (refine' dic_set (knd := PySem.strKind _ _) ?zz419xa ?zz419xb ?zz419xc ?zz419xd (strKind_is _ _ _ _) ?zz419xf ?_; (case zz419xa => k_asm); (case zz419xb => k_asm); (case zz419xc => k_updF); (case zz419xd => assumption); (case zz419xf => omega); k_whole); intro h' o' F' N' dc'; (try dsimp only at N' dc' F'); (try k_sweep))
  k_with "newTuple" => (k_here; k_dflt (refine' kup_newTuple ?zz420xF ?zz420xN ?_ ?zz420xz; (case zz420xF => k_asm); (case zz420xN => k_asm); (case zz420xz => kmk_size)); intro D' h' F' N' l1; (try (k_dflt (have nd' := nd_cons l1 (by assumption)))); (try clear l1); (try k_sweep))
  k_with "newList" => (k_here; k_dflt (refine' newList_K ?zz421xk1 ?zz421xk2 ?_; (case zz421xk1 => k_asm); (case zz421xk2 => k_asm); k_whole); intro l' h' F' N' l1; (try (k_dflt (have nd' := nd_cons l1 (by assumption)))); (try clear l1); (try k_sweep))
  k_with "eval Dict" => (k_here; kdn_look; k_dflt (refine' kdn_str ?zz422xq ?zz422xF ?zz422xN ?zz422xb ?zz422xa ?zz422xl ?zz422xe ?zz422xn ?_; (case zz422xq => rfl); (case zz422xF => k_asm); (case zz422xN => k_asm); (case zz422xb => exact Top.nolimit (by k_asm)); (case zz422xa => rfl); (case zz422xl => rfl); (case zz422xe => exact List.cons_ne_nil _ _); (case zz422xn => exact Nat.le_of_ble_eq_true rfl)); intro d' h' o' F' N' l1 lo' hd'; (try (k_dflt (have nd' := nd_cons l1 (by assumption)))); clear l1)
  k_with "eval Dict nil nil" => (k_here; k_dflt (refine' newDict_K ?zz423xk1 ?zz423xk2 (TopRead.nolimit (by k_asm)) ?_; (case zz423xk1 => k_asm); (case zz423xk2 => k_asm); k_whole); intro d' h' o' F' N' l1 lo' hs' fs' hi' fi'; (try (k_dflt (have nd' := nd_cons l1 (by assumption)))); clear l1; (try k_sweep))
  k_with "compareOp NotIn" => (k_here; (with_reducible show wpAny _ _ (compareOp CmpOp.NotIn (Value.str _ _) (Value.ref _)) _ _ _); k_dflt (refine' tup_notIn ?zz424xa ?zz424xb ?zz424xc ?zz424xd ?zz424xe ?_; (case zz424xa => k_asm); (case zz424xb => k_asm); (case zz424xc => k_is); (case zz424xd => exact rfl); (case zz424xe => first | exact (rfl : _ = true) | exact (rfl : _ = false) | exact (by decide : _ = true) | exact (by decide : _ = false)); k_whole; (try dsimp only [Bool.not_true, Bool.not_false])))
  k_with "compareOp In" => (k_here; (with_reducible show wpAny _ _ (compareOp CmpOp.In (Value.str _ _) (Value.ref _)) _ _ _); k_dflt (refine' tup_in ?zz425xa ?zz425xb ?zz425xc ?zz425xd ?zz425xe ?_; (case zz425xa => k_asm); (case zz425xb => k_asm); (case zz425xc => k_is); (case zz425xd => exact rfl); (case zz425xe => first | exact (rfl : _ = true) | exact (rfl : _ = false) | exact (by decide : _ = true) | exact (by decide : _ = false)); k_whole))
  trivial




theorem oreg_root {w : World} {mean : ExcName → Option Value} {mg mb : Str → Option Value}
    {dp un : Nat} {gd : Option (List Code)} {cn : Str} {cs : Scope} {a : Addr} {ccd : Value} {cl : List (Str × Addr)} {outer : List Env} {A₀ : Around} {base h₀ : Heap} {L : Addr} {m : Str → Option Value} {news : List (Addr × Obj)} {s : Shared}
    {Q E : Value → Shared → Prop} {tkk : Tok} {k : Int}
    (B : Below A₀ base outer h₀) (F : Fr h₀ L s.heap m) (KX : (Mine.K w.params).In h₀) (T : Top Mine.q0 (looseW Mine.q0 [Str.ofString "Limits"]) mean mg mb h₀) (hk : cs.kind = .function) (N : News h₀ L s.heap news) (nd : (news.map Prod.fst).Nodup) (hd : dp + 30 < recursionLimit) (hu : un + 700 < cLine)
    (hret : ∀ rr drr odrr na oa ca ta on oc ot co h' tks, RootS 1 rr na oa ca ta odrr → Fr h₀ L h' m → News h₀ L h' ((drr, odrr) :: (ca, oc) :: (ta, ot) :: (na, on) :: (oa, PySem.W.listOf #[] co) :: (rr, instObj 113 drr) :: news) → (((drr, odrr) :: (ca, oc) :: (ta, ot) :: (na, on) :: (oa, PySem.W.listOf #[] co) :: (rr, instObj 113 drr) :: news).map Prod.fst).Nodup →
      CntS w 0 oc → (ca == sysModules) = false → HomS w 0 k ot (fun _ => none) → (ta == sysModules) = false → NamS w 0 on (fun _ => True) → (na == sysModules) = false → Q (.ref rr) { s with heap := h', toks := tks }) :
    wpAny (model PySem.Challenge.rw_rg0009_01.row.prog w) (ktrTop dp un gd cn cs L a ccd cl outer) (call (.ref 124) [.str (Str.ofString "root") tkk, .none, .none]) Q E s := by
  (try w_top off); revert KX; k_fill; intro KX
  refine wpAny_call ?_
  (k_extra "ENTER")
  k_steps
  all_goals exact hret _ _ _ _ _ _ _ _ _ _ _ _ _ (RootS.mkN (by k_asm) (by k_mem) (by k_mem) (by assumption) (by decide) (by repeat' (first | exact List.forall_mem_nil _ | refine List.forall_mem_cons.mpr ⟨rfl, ?_⟩)) (by decide) (by decide)) (by k_asm) (by ktr_rel) (nd_sp (by assumption) (by simp only [List.map_cons]; repeat (first | exact SubP.refl | exact SubP.nil | (apply SubP.cons; focus (repeat (first | exact PullA.head | apply PullA.tail))) | apply SubP.drop))) ⟨fun _ => none, 0, Dic.new (by assumption), Nat.le_refl _, fun _ _ h => by cases h⟩ (by assumption) ⟨0, Dic.new (by assumption), Nat.le_refl _, fun _ _ => rfl⟩ (by assumption) ⟨fun _ => none, 0, Dic.new (by assumption), Nat.le_refl _, fun _ _ => rfl⟩ (by assumption)

end Mine
end
section
open PySem PySem.W PyProof.Rows
namespace Mine
theorem ln32 : True := by
  k_with_none
  k_with "ENTER" => (first | (refine' code_def ?zz443xk1 ?zz443xk2 ?zz443xk3 ?zz443xk4 ?zz443xk5 ?zz443xkA ?zz443xkF ?zz443xkK ?zz443xk6 ?zz443xk7 ?zz443xk8 ?zz443xk9 ?zz443xkB ?_ ?zz443xc2 ?zz443xc3 ?zz443xc4 ?zz443xc5; (case zz443xkA => exact rfl); (case zz443xkF => exact rfl); (case zz443xkK => first | exact rfl | assumption); (case zz443xk1 => k_asm); (case zz443xk2 => k_asm); (case zz443xk3 => k_asm); (case zz443xk4 => k_asm); (case zz443xk5 => k_asm); (case zz443xk6 => k_is); (case zz443xk7 => k_is); (case zz443xk8 => ktr_room); (case zz443xk9 => first | exact BindsTo.of_eq (binds := []) rfl | exact BindsTo.of_eq (binds := [(_, _)]) rfl | exact BindsTo.of_eq (binds := [(_, _), (_, _)]) rfl | exact BindsTo.of_eq (binds := [(_, _), (_, _), (_, _)]) rfl | exact BindsTo.of_eq (binds := [(_, _), (_, _), (_, _), (_, _)]) rfl | exact BindsTo.of_eq (binds := [(_, _), (_, _), (_, _), (_, _), (_, _)]) rfl | exact BindsTo.of_eq (binds := [(_, _), (_, _), (_, _), (_, _), (_, _), (_, _)]) rfl | exact BindsTo.of_eq (binds := [(_, _), (_, _), (_, _), (_, _), (_, _), (_, _), (_, _)]) rfl | exact BindsTo.of_eq (binds := [(_, _), (_, _), (_, _), (_, _), (_, _), (_, _), (_, _), (_, _)]) rfl | exact BindsTo.of_eq (binds := [(_, _), (_, _), (_, _), (_, _), (_, _), (_, _), (_, _), (_, _), (_, _)]) rfl | exact BindsTo.of_eq (binds := [(_, _), (_, _), (_, _), (_, _), (_, _), (_, _), (_, _), (_, _), (_, _), (_, _)]) rfl | exact binds_K (by k_in) rfl (by k_is) rfl rfl rfl); (case zz443xc5 => decide); (case zz443xkB => exact locs rfl); (case zz443xc2 => exact rfl); (case zz443xc3 => exact rfl); (case zz443xc4 => exact rfl); k_whole; intro g' L' h' FG' F' N' B' X' T'; (try dsimp only); (try k_fold)) | (refine' code_defC ?zz443xk1 ?zz443xk2 ?zz443xk3 ?zz443xk4 ?zz443xk5 ?zz443xkA ?zz443xkF ?zz443xkK ?zz443xk6 ?zz443xk7 ?zz443xk8 ?zz443xk9 ?zz443xkB ?zz443xkD ?_ ?zz443xc2 ?zz443xc3 ?zz443xc4; (case zz443xkA => exact rfl); (case zz443xkF => exact rfl); (case zz443xkK => first | exact rfl | assumption); (case zz443xk1 => k_asm); (case zz443xk2 => k_asm); (case zz443xk3 => k_asm); (case zz443xk4 => k_asm); (case zz443xk5 => k_asm); (case zz443xk6 => k_is); (case zz443xk7 => k_is); (case zz443xk8 => ktr_room); (case zz443xk9 => first | exact BindsTo.of_eq (binds := []) rfl | exact BindsTo.of_eq (binds := [(_, _)]) rfl | exact BindsTo.of_eq (binds := [(_, _), (_, _)]) rfl | exact BindsTo.of_eq (binds := [(_, _), (_, _), (_, _)]) rfl | exact BindsTo.of_eq (binds := [(_, _), (_, _), (_, _), (_, _)]) rfl | exact BindsTo.of_eq (binds := [(_, _), (_, _), (_, _), (_, _), (_, _)]) rfl | exact BindsTo.of_eq (binds := [(_, _), (_, _), (_, _), (_, _), (_, _), (_, _)]) rfl | exact BindsTo.of_eq (binds := [(_, _), (_, _), (_, _), (_, _), (_, _), (_, _), (_, _)]) rfl | exact BindsTo.of_eq (binds := [(_, _), (_, _), (_, _), (_, _), (_, _), (_, _), (_, _), (_, _)]) rfl | exact BindsTo.of_eq (binds := [(_, _), (_, _), (_, _), (_, _), (_, _), (_, _), (_, _), (_, _), (_, _)]) rfl | exact BindsTo.of_eq (binds := [(_, _), (_, _), (_, _), (_, _), (_, _), (_, _), (_, _), (_, _), (_, _), (_, _)]) rfl | exact binds_K (by k_in) rfl (by k_is) rfl rfl rfl); (case zz443xkB => exact rfl); (case zz443xkD => decide +kernel); (case zz443xc2 => exact rfl); (case zz443xc3 => exact rfl); (case zz443xc4 => exact rfl); k_whole; intro g' L' h' tk' cells' FG' F' N' Y' B' X' T' l1; k_cells Y'; (try simp only [List.cons_append, List.nil_append] at N'); (try dsimp only); (try k_fold)))
  k_with "call ref" => (k_here; k_dflt (refine' mk_inst ?zz427xk1 ?zz427xk2 ?zz427xk3 ?zz427xk4 ?zz427xk5 ?zz427xk6 ?_; (case zz427xk1 => k_asm); (case zz427xk2 => k_asm); (case zz427xk3 => k_asm); (case zz427xk4 => k_is); (case zz427xk5 => k_is); (case zz427xk6 => k_is); k_whole; intro x' d' o' h' F' N' a' l1 l2; (have nd' := nd_cons2 l1 l2 (by assumption)); (try k_sweep); (k_extra "ENTER")))
  k_with "setAttr ref" => (k_here; k_dflt (refine' at_set ?zz428xk1 ?zz428xk2 ?zz428xk3 ?zz428xk4 ?zz428xk5 ?zz428xk6 ?zz428xk7 ?zz428xk8 ?zz428xk9 ?zz428xk10 ?zz428xk11 ?_; (case zz428xk1 => k_asm); (case zz428xk2 => k_asm); (case zz428xk3 => k_asm); (case zz428xk4 => k_mem); (case zz428xk5 => k_updF); (case zz428xk6 => assumption); (case zz428xk7 => k_is); (case zz428xk8 => k_is); (case zz428xk9 => k_is); (case zz428xk10 => k_is); (case zz428xk11 => exact Nat.le_of_ble_eq_true rfl); k_whole; intro h' o' F' N' a'; (try dsimp only at N' a' F'); (try k_sweep)))
  k_with "setAttr ref" => (k_here; k_dflt (refine' at_again ?zz429xk1 ?zz429xk2 ?zz429xk3 ?zz429xk4 ?zz429xk5 ?zz429xk6 ?zz429xk0 ?zz429xk7 ?zz429xk8 ?zz429xk9 ?zz429xk10 ?zz429xk11 ?_; (case zz429xk1 => k_asm); (case zz429xk2 => k_asm); (case zz429xk3 => k_asm); (case zz429xk4 => k_mem); (case zz429xk5 => k_updF); (case zz429xk6 => assumption); (case zz429xk0 => first | exact rfl | assumption); (case zz429xk7 => k_is); (case zz429xk8 => k_is); (case zz429xk9 => k_is); (case zz429xk10 => k_is); (case zz429xk11 => exact Nat.le_of_ble_eq_true rfl); k_whole; intro h' o' F' N' a'; (try dsimp only at N' a' F'); (try k_sweep)))
  k_with "getAttr ref" => (k_here; k_dflt (refine' at_get ?zz430xk1 ?zz430xk2 ?zz430xk3 ?zz430xk4 ?zz430xk5 ?zz430xk6 ?zz430xk7 ?zz430xk8 ?zz430xk9 ?zz430xk10 ?zz430xk11 ?zz430xk12 ?_; (case zz430xk1 => k_asm); (case zz430xk2 => k_asm); (case zz430xk3 => k_asm); (case zz430xk4 => k_mem); (case zz430xk5 => k_mem); (case zz430xk6 => assumption); (case zz430xk7 => first | exact rfl | assumption); (case zz430xk8 => k_is); (case zz430xk9 => k_is); (case zz430xk10 => k_is); (case zz430xk11 => k_is); (case zz430xk12 => k_handed); k_whole))
  k_with "call type:list" => (k_here; (with_reducible show wpAny _ _ (call (Value.type _) [Value.ref _]) _ _ _); (with_unfolding_all refine' list_copyK ?zz431xk1 ?zz431xk2 ?zz431xk3 ?_ ?zz431xz; (case zz431xk1 => k_asm); (case zz431xk2 => k_asm); (case zz431xk3 => exact News.isList (d := none) (sl := #[]) (by k_asm) (by k_mem)); (case zz431xz => size_fits); k_whole); intro D' c' h' F' N' l1; (have nd' := nd_cons l1 (by assumption)); (try k_sweep))
  k_with "compareOp Eq ref ref" => (k_here; (with_reducible show wpAny _ _ (compareOp CmpOp.Eq (Value.ref _) (Value.ref _)) _ _ _); k_dflt (refine' ke_eq_ints (xs := []) (ys := []) ?zz432xa ?zz432xb .nil .nil ?zz432xu ?_; (case zz432xa => exact News.isList (d := none) (sl := #[]) (items := #[]) (by k_asm) (by k_mem)); (case zz432xb => exact News.isList (d := none) (sl := #[]) (items := #[]) (by k_asm) (by k_mem)); (case zz432xu => ktr_units); k_whole))
  k_with "getMethod ref" => (k_here; k_dflt (first | ((with_reducible show wpAny _ _ (getMethod (Value.ref _) (Str.ofString "get") _) _ _ _); refine' dic_method (knd := PySem.strKind _ _) PySem.F.slot_dict_get PySem.F.type_dict_get ?zz433xa ?zz433xb ?zz433xc ?_; (case zz433xa => k_asm); (case zz433xb => k_mem); (case zz433xc => assumption); k_whole) | ((with_reducible show wpAny _ _ (getMethod (Value.ref _) (Str.ofString "get") _) _ _ _); refine' dic_method (knd := PySem.intKind _ _) PySem.F.slot_dict_get PySem.F.type_dict_get ?zz433xa ?zz433xb ?zz433xc ?_; (case zz433xa => k_asm); (case zz433xb => k_mem); (case zz433xc => assumption); k_whole) | ((with_reducible show wpAny _ _ (getMethod (Value.ref _) (Str.ofString "setdefault") _) _ _ _); refine' dic_method (knd := PySem.strKind _ _) PySem.F.slot_dict_setdefault PySem.F.type_dict_setdefault ?zz433xa ?zz433xb ?zz433xc ?_; (case zz433xa => k_asm); (case zz433xb => k_mem); (case zz433xc => assumption); k_whole) | ((with_reducible show wpAny _ _ (getMethod (Value.ref _) (Str.ofString "setdefault") _) _ _ _); refine' dic_method (knd := PySem.intKind _ _) PySem.F.slot_dict_setdefault PySem.F.type_dict_setdefault ?zz433xa ?zz433xb ?zz433xc ?_; (case zz433xa => k_asm); (case zz433xb => k_mem); (case zz433xc => assumption); k_whole)))
  k_with "call builtin:dict.get" => (k_here; k_dflt (first
  | (refine' dic_get2 (knd := PySem.strKind _ _) ?zz434xa ?zz434xb ?zz434xc ?zz434xd (strKind_is _ _ _ _) ?_; (case zz434xa => k_asm); (case zz434xb => k_mem); (case zz434xc => assumption); (case zz434xd => assumption); k_whole)
  | (refine' dic_get1 (knd := PySem.intKind _ _) ?zz434xa ?zz434xb ?zz434xc ?zz434xd (intKind_is _ _ _ _) ?_; (case zz434xa => k_asm); (case zz434xb => k_mem); (case zz434xc => assumption); (case zz434xd => assumption); k_whole)); (try simp only [Option.getD_none, Option.getD_some, *]))
  k_with "call builtin:dict.setdefault" => (k_here; k_dflt (first
  | (refine' dic_default (knd := PySem.strKind _ _) ?zz435xa ?zz435xb ?zz435xc ?zz435xd ?zz435xe (strKind_is _ _ _ _) ?zz435xf ?zz435xg ?_; (case zz435xa => k_asm); (case zz435xb => k_asm); (case zz435xc => k_updF); (case zz435xd => assumption); (case zz435xe => assumption); (case zz435xf => omega); (case zz435xg => assumption); k_whole)
  | (refine' dic_default (knd := PySem.intKind _ _) ?zz435xa ?zz435xb ?zz435xc ?zz435xd ?zz435xe (intKind_is _ _ _ _) ?zz435xf ?zz435xg ?_; (case zz435xa => k_asm); (case zz435xb => k_asm); (case zz435xc => k_updF); (case zz435xd => assumption); (case zz435xe => assumption); (case zz435xf => omega); (case zz435xg => assumption); k_whole)); intro h' o' F' N' dc'; (try dsimp only at N' dc' F'); (try k_sweep))
  k_with "setItem ref str" => (k_here; k_dflt (refine' dic_set (knd := PySem.strKind _ _) ?zz436xa ?zz436xb ?zz436xc ?zz436xd (strKind_is _ _ _ _) ?zz436xf ?_; (case zz436xa => k_asm); (case zz436xb => k_asm); (case zz436xc => k_updF); (case zz436xd => assumption); (case zz436xf => omega); k_whole); intro h' o' F' N' dc'; (try dsimp only at N' dc' F'); (try k_sweep))
  k_with "newTuple" => (k_here; k_dflt (refine' kup_newTuple ?zz437xF ?zz437xN ?_ ?zz437xz; (case zz437xF => k_asm); (case zz437xN => k_asm); (case zz437xz => kmk_size)); intro D' h' F' N' l1; (try (k_dflt (have nd' := nd_cons l1 (by assumption)))); (try clear l1); (try k_sweep))
  k_with "newList" => (k_here; k_dflt (refine' newList_K ?zz438xk1 ?zz438xk2 ?_; (case zz438xk1 => k_asm); (case zz438xk2 => k_asm); k_whole); intro l' h' F' N' l1; (try (k_dflt (have nd' := nd_cons l1 (by assumption)))); (try clear l1); (try k_sweep))
  k_with "eval Dict" => (k_here; kdn_look; k_dflt (refine' kdn_str ?zz439xq ?zz439xF ?zz439xN ?zz439xb ?zz439xa ?zz439xl ?zz439xe ?zz439xn ?_; (case zz439xq => rfl); (case zz439xF => k_asm); (case zz439xN => k_asm); (case zz439xb => exact Top.nolimit (by k_asm)); (case zz439xa => rfl); (case zz439xl => rfl); (case zz439xe => exact List.cons_ne_nil _ _); (case zz439xn => exact Nat.le_of_ble_eq_true rfl)); intro d' h' o' F' N' l1 lo' hd'; (try (k_dflt (have nd' := nd_cons l1 (by assumption)))); clear l1)
  k_with "eval Dict nil nil" => (k_here; k_dflt (refine' newDict_K ?zz440xk1 ?zz440xk2 (TopRead.nolimit (by k_asm)) ?_; (case zz440xk1 => k_asm); (case zz440xk2 => k_asm); k_whole); intro d' h' o' F' N' l1 lo' hs' fs' hi' fi'; (try (k_dflt (have nd' := nd_cons l1 (by assumption)))); clear l1; (try k_sweep))
  k_with "compareOp NotIn" => (k_here; (with_reducible show wpAny _ _ (compareOp CmpOp.NotIn (Value.str _ _) (Value.ref _)) _ _ _); k_dflt (refine' tup_notIn ?zz441xa ?zz441xb ?zz441xc ?zz441xd ?zz441xe ?_; (case zz441xa => k_asm); (case zz441xb => k_asm); (case zz441xc => k_is); (case zz441xd => exact rfl); (case zz441xe => first | exact (rfl : _ = true) | exact (rfl : _ = false) | exact (by decide : _ = true) | exact (by decide : _ = false)); k_whole; (try dsimp only [Bool.not_true, Bool.not_false])))
  k_with "compareOp In" => (k_here; (with_reducible show wpAny _ _ (compareOp CmpOp.In (Value.str _ _) (Value.ref _)) _ _ _); k_dflt (refine' tup_in ?zz442xa ?zz442xb ?zz442xc ?zz442xd ?zz442xe ?_; (case zz442xa => k_asm); (case zz442xb => k_asm); (case zz442xc => k_is); (case zz442xd => exact rfl); (case zz442xe => first | exact (rfl : _ = true) | exact (rfl : _ = false) | exact (by decide : _ = true) | exact (by decide : _ = false)); k_whole))
  trivial




theorem oreg_top {w : World} {mean : ExcName → Option Value} {mg mb : Str → Option Value}
    {dp un : Nat} {gd : Option (List Code)} {cn : Str} {cs : Scope} {a : Addr} {ccd : Value} {cl : List (Str × Addr)} {outer : List Env} {A₀ : Around} {base h₀ : Heap} {L : Addr} {m : Str → Option Value} {news : List (Addr × Obj)} {s : Shared}
    {Q E : Value → Shared → Prop} {rr drr : Addr} {odrr : Obj} {rnrr rorr ca ta : Addr} {e de : Addr} {oe : Obj} {kd nm : Str} {tk tn : Tok} {sv : Value} {ln : Int} {tl : Tok} {reg full : Value} {compl impl : Bool} {home uq nb pa : Value} {r : Addr} {na oa : Addr} {b : Nat} {tkk : Tok} {l0 l1 nsm : List (Addr × Obj)} 
    (P1 : Pull (drr, odrr) l0 l1) (P2 : Pull (de, oe) l1 news) (hrr : (rr, instObj 113 drr) ∈ news) (rs : RootS b rr rnrr rorr ca ta odrr) (he : (e, instObj 77 de) ∈ news) (ae : Attrs 18 oe (at_ (entL kd tk nm tn sv ln tl reg full compl impl home uq nb pa))) (hb : b ≤ 900)  (hincl : ∀ p ∈ nsm, p ∈ news)
    (B : Below A₀ base outer h₀) (F : Fr h₀ L s.heap m) (KX : (Mine.K w.params).In h₀) (T : Top Mine.q0 (looseW Mine.q0 [Str.ofString "Limits"]) mean mg mb h₀) (hk : cs.kind = .function) (N : News h₀ L s.heap l0) (nd : (l0.map Prod.fst).Nodup) (hd : dp + 30 < recursionLimit) (hu : un + 700 < cLine)
    (hret : ∀ r' dr' odr' na' oa' on' co' odrr' oe' h' tks, RootS (b + 1) rr rnrr rorr ca ta odrr' → Attrs 18 oe' (at_ (entL kd tk nm tn sv ln tl (.ref r') full compl impl home uq nb pa)) → SubR ((r', instObj 113 dr') :: (dr', odr') :: nsm) rr r' dr' odr' na' oa' → Fr h₀ L h' m → News h₀ L h' ((drr, odrr') :: (de, oe') :: (na', on') :: (oa', PySem.W.listOf #[] co') :: (r', instObj 113 dr') :: (dr', odr') :: news) → (((drr, odrr') :: (de, oe') :: (na', on') :: (oa', PySem.W.listOf #[] co') :: (r', instObj 113 dr') :: (dr', odr') :: news).map Prod.fst).Nodup →
      NamS w 0 on' (fun _ => True) → (na' == sysModules) = false → Q (.ref r') { s with heap := h', toks := tks }) :
    wpAny (model PySem.Challenge.rw_rg0009_01.row.prog w) (ktrTop dp un gd cn cs L a ccd cl outer) (call (.ref 124) [.str (Str.ofString "package") tkk, .ref e, .ref rr]) Q E s := by
  obtain ⟨tkrr, parr, Mr, tMr, nurr, tnurr, lvrr, tlvrr, ptrr, tptrr, arr, hM0, hM1⟩ := rs
  have hc : Chain nsm rr 0 rr := rfl
  replace N := Mine.News.perm N (P1.perm.trans (P2.perm.cons _))
  replace nd := nd_perm nd (P1.perm.trans (P2.perm.cons _))
  clear P1 P2
  (try w_top off); revert KX; k_fill; intro KX
  refine wpAny_call ?_
  (k_extra "ENTER")
  k_steps
  all_goals exact hret _ _ _ _ _ _ _ _ _ _ _ (RootS.mkN (by k_asm) (by k_mem) (by k_mem) (by assumption) (by decide) (by repeat' (first | exact List.forall_mem_nil _ | refine List.forall_mem_cons.mpr ⟨rfl, ?_⟩)) (by omega) (by omega)) (at_mkN (d := de) (by k_asm) (by k_mem) (by assumption) (by decide) (by repeat' (first | exact List.forall_mem_nil _ | refine List.forall_mem_cons.mpr ⟨rfl, ?_⟩))) (SubR.mkN (by k_asm) (by k_mem) (by k_mem) (by assumption) (by decide) (by repeat' (first | exact List.forall_mem_nil _ | refine List.forall_mem_cons.mpr ⟨rfl, ?_⟩)) hc) (by k_asm) (by ktr_rel) (nd_sp (by assumption) (by simp only [List.map_cons]; repeat (first | exact SubP.refl | exact SubP.nil | (apply SubP.cons; focus (repeat (first | exact PullA.head | apply PullA.tail))) | apply SubP.drop))) ⟨fun _ => none, 0, Dic.new (by assumption), Nat.le_refl _, fun _ _ => rfl⟩ (by assumption)

end Mine
end
section
open PySem PySem.W PyProof.Rows
namespace Mine
theorem ln33 : True := by
  k_with_none
  k_with "ENTER" => (first | (refine' code_def ?zz460xk1 ?zz460xk2 ?zz460xk3 ?zz460xk4 ?zz460xk5 ?zz460xkA ?zz460xkF ?zz460xkK ?zz460xk6 ?zz460xk7 ?zz460xk8 ?zz460xk9 ?zz460xkB ?_ ?zz460xc2 ?zz460xc3 ?zz460xc4 ?zz460xc5; (case zz460xkA => exact rfl); (case zz460xkF => exact rfl); (case zz460xkK => first | exact rfl | assumption); (case zz460xk1 => k_asm); (case zz460xk2 => k_asm); (case zz460xk3 => k_asm); (case zz460xk4 => k_asm); (case zz460xk5 => k_asm); (case zz460xk6 => k_is); (case zz460xk7 => k_is); (case zz460xk8 => ktr_room); (case zz460xk9 => first | exact BindsTo.of_eq (binds := []) rfl | exact BindsTo.of_eq (binds := [(_, _)]) rfl | exact BindsTo.of_eq (binds := [(_, _), (_, _)]) rfl | exact BindsTo.of_eq (binds := [(_, _), (_, _), (_, _)]) rfl | exact BindsTo.of_eq (binds := [(_, _), (_, _), (_, _), (_, _)]) rfl | exact BindsTo.of_eq (binds := [(_, _), (_, _), (_, _), (_, _), (_, _)]) rfl | exact BindsTo.of_eq (binds := [(_, _), (_, _), (_, _), (_, _), (_, _), (_, _)]) rfl | exact BindsTo.of_eq (binds := [(_, _), (_, _), (_, _), (_, _), (_, _), (_, _), (_, _)]) rfl | exact BindsTo.of_eq (binds := [(_, _), (_, _), (_, _), (_, _), (_, _), (_, _), (_, _), (_, _)]) rfl | exact BindsTo.of_eq (binds := [(_, _), (_, _), (_, _), (_, _), (_, _), (_, _), (_, _), (_, _), (_, _)]) rfl | exact BindsTo.of_eq (binds := [(_, _), (_, _), (_, _), (_, _), (_, _), (_, _), (_, _), (_, _), (_, _), (_, _)]) rfl | exact binds_K (by k_in) rfl (by k_is) rfl rfl rfl); (case zz460xc5 => decide); (case zz460xkB => exact locs rfl); (case zz460xc2 => exact rfl); (case zz460xc3 => exact rfl); (case zz460xc4 => exact rfl); k_whole; intro g' L' h' FG' F' N' B' X' T'; (try dsimp only); (try k_fold)) | (refine' code_defC ?zz460xk1 ?zz460xk2 ?zz460xk3 ?zz460xk4 ?zz460xk5 ?zz460xkA ?zz460xkF ?zz460xkK ?zz460xk6 ?zz460xk7 ?zz460xk8 ?zz460xk9 ?zz460xkB ?zz460xkD ?_ ?zz460xc2 ?zz460xc3 ?zz460xc4; (case zz460xkA => exact rfl); (case zz460xkF => exact rfl); (case zz460xkK => first | exact rfl | assumption); (case zz460xk1 => k_asm); (case zz460xk2 => k_asm); (case zz460xk3 => k_asm); (case zz460xk4 => k_asm); (case zz460xk5 => k_asm); (case zz460xk6 => k_is); (case zz460xk7 => k_is); (case zz460xk8 => ktr_room); (case zz460xk9 => first | exact BindsTo.of_eq (binds := []) rfl | exact BindsTo.of_eq (binds := [(_, _)]) rfl | exact BindsTo.of_eq (binds := [(_, _), (_, _)]) rfl | exact BindsTo.of_eq (binds := [(_, _), (_, _), (_, _)]) rfl | exact BindsTo.of_eq (binds := [(_, _), (_, _), (_, _), (_, _)]) rfl | exact BindsTo.of_eq (binds := [(_, _), (_, _), (_, _), (_, _), (_, _)]) rfl | exact BindsTo.of_eq (binds := [(_, _), (_, _), (_, _), (_, _), (_, _), (_, _)]) rfl | exact BindsTo.of_eq (binds := [(_, _), (_, _), (_, _), (_, _), (_, _), (_, _), (_, _)]) rfl | exact BindsTo.of_eq (binds := [(_, _), (_, _), (_, _), (_, _), (_, _), (_, _), (_, _), (_, _)]) rfl | exact BindsTo.of_eq (binds := [(_, _), (_, _), (_, _), (_, _), (_, _), (_, _), (_, _), (_, _), (_, _)]) rfl | exact BindsTo.of_eq (binds := [(_, _), (_, _), (_, _), (_, _), (_, _), (_, _), (_, _), (_, _), (_, _), (_, _)]) rfl | exact binds_K (by k_in) rfl (by k_is) rfl rfl rfl); (case zz460xkB => exact rfl); (case zz460xkD => decide +kernel); (case zz460xc2 => exact rfl); (case zz460xc3 => exact rfl); (case zz460xc4 => exact rfl); k_whole; intro g' L' h' tk' cells' FG' F' N' Y' B' X' T' l1; k_cells Y'; (try simp only [List.cons_append, List.nil_append] at N'); (try dsimp only); (try k_fold)))
  k_with "call ref" => (k_here; k_dflt (refine' mk_inst ?zz444xk1 ?zz444xk2 ?zz444xk3 ?zz444xk4 ?zz444xk5 ?zz444xk6 ?_; (case zz444xk1 => k_asm); (case zz444xk2 => k_asm); (case zz444xk3 => k_asm); (case zz444xk4 => k_is); (case zz444xk5 => k_is); (case zz444xk6 => k_is); k_whole; intro x' d' o' h' F' N' a' l1 l2; (have nd' := nd_cons2 l1 l2 (by assumption)); (try k_sweep); (k_extra "ENTER")))
  k_with "setAttr ref" => (k_here; k_dflt (refine' at_set ?zz445xk1 ?zz445xk2 ?zz445xk3 ?zz445xk4 ?zz445xk5 ?zz445xk6 ?zz445xk7 ?zz445xk8 ?zz445xk9 ?zz445xk10 ?zz445xk11 ?_; (case zz445xk1 => k_asm); (case zz445xk2 => k_asm); (case zz445xk3 => k_asm); (case zz445xk4 => k_mem); (case zz445xk5 => k_updF); (case zz445xk6 => assumption); (case zz445xk7 => k_is); (case zz445xk8 => k_is); (case zz445xk9 => k_is); (case zz445xk10 => k_is); (case zz445xk11 => exact Nat.le_of_ble_eq_true rfl); k_whole; intro h' o' F' N' a'; (try dsimp only at N' a' F'); (try k_sweep)))
  k_with "setAttr ref" => (k_here; k_dflt (refine' at_again ?zz446xk1 ?zz446xk2 ?zz446xk3 ?zz446xk4 ?zz446xk5 ?zz446xk6 ?zz446xk0 ?zz446xk7 ?zz446xk8 ?zz446xk9 ?zz446xk10 ?zz446xk11 ?_; (case zz446xk1 => k_asm); (case zz446xk2 => k_asm); (case zz446xk3 => k_asm); (case zz446xk4 => k_mem); (case zz446xk5 => k_updF); (case zz446xk6 => assumption); (case zz446xk0 => first | exact rfl | assumption); (case zz446xk7 => k_is); (case zz446xk8 => k_is); (case zz446xk9 => k_is); (case zz446xk10 => k_is); (case zz446xk11 => exact Nat.le_of_ble_eq_true rfl); k_whole; intro h' o' F' N' a'; (try dsimp only at N' a' F'); (try k_sweep)))
  k_with "getAttr ref" => (k_here; k_dflt (refine' at_get ?zz447xk1 ?zz447xk2 ?zz447xk3 ?zz447xk4 ?zz447xk5 ?zz447xk6 ?zz447xk7 ?zz447xk8 ?zz447xk9 ?zz447xk10 ?zz447xk11 ?zz447xk12 ?_; (case zz447xk1 => k_asm); (case zz447xk2 => k_asm); (case zz447xk3 => k_asm); (case zz447xk4 => k_mem); (case zz447xk5 => k_mem); (case zz447xk6 => assumption); (case zz447xk7 => first | exact rfl | assumption); (case zz447xk8 => k_is); (case zz447xk9 => k_is); (case zz447xk10 => k_is); (case zz447xk11 => k_is); (case zz447xk12 => k_handed); k_whole))
  k_with "call type:list" => (k_here; (with_reducible show wpAny _ _ (call (Value.type _) [Value.ref _]) _ _ _); (with_unfolding_all refine' list_copyK ?zz448xk1 ?zz448xk2 ?zz448xk3 ?_ ?zz448xz; (case zz448xk1 => k_asm); (case zz448xk2 => k_asm); (case zz448xk3 => exact News.isList (d := none) (sl := #[]) (by k_asm) (by k_mem)); (case zz448xz => size_fits); k_whole); intro D' c' h' F' N' l1; (have nd' := nd_cons l1 (by assumption)); (try k_sweep))
  k_with "compareOp Eq ref ref" => (k_here; (with_reducible show wpAny _ _ (compareOp CmpOp.Eq (Value.ref _) (Value.ref _)) _ _ _); k_dflt (refine' ke_eq_ints (xs := []) (ys := []) ?zz449xa ?zz449xb .nil .nil ?zz449xu ?_; (case zz449xa => exact News.isList (d := none) (sl := #[]) (items := #[]) (by k_asm) (by k_mem)); (case zz449xb => exact News.isList (d := none) (sl := #[]) (items := #[]) (by k_asm) (by k_mem)); (case zz449xu => ktr_units); k_whole))
  k_with "getMethod ref" => (k_here; k_dflt (first | ((with_reducible show wpAny _ _ (getMethod (Value.ref _) (Str.ofString "get") _) _ _ _); refine' dic_method (knd := PySem.strKind _ _) PySem.F.slot_dict_get PySem.F.type_dict_get ?zz450xa ?zz450xb ?zz450xc ?_; (case zz450xa => k_asm); (case zz450xb => k_mem); (case zz450xc => assumption); k_whole) | ((with_reducible show wpAny _ _ (getMethod (Value.ref _) (Str.ofString "get") _) _ _ _); refine' dic_method (knd := PySem.intKind _ _) PySem.F.slot_dict_get PySem.F.type_dict_get ?zz450xa ?zz450xb ?zz450xc ?_; (case zz450xa => k_asm); (case zz450xb => k_mem); (case zz450xc => assumption); k_whole) | ((with_reducible show wpAny _ _ (getMethod (Value.ref _) (Str.ofString "setdefault") _) _ _ _); refine' dic_method (knd := PySem.strKind _ _) PySem.F.slot_dict_setdefault PySem.F.type_dict_setdefault ?zz450xa ?zz450xb ?zz450xc ?_; (case zz450xa => k_asm); (case zz450xb => k_mem); (case zz450xc => assumption); k_whole) | ((with_reducible show wpAny _ _ (getMethod (Value.ref _) (Str.ofString "setdefault") _) _ _ _); refine' dic_method (knd := PySem.intKind _ _) PySem.F.slot_dict_setdefault PySem.F.type_dict_setdefault ?zz450xa ?zz450xb ?zz450xc ?_; (case zz450xa => k_asm); (case zz450xb => k_mem); (case zz450xc => assumption); k_whole)))
  k_with "call builtin:dict.get" => (k_here; k_dflt (first
  | (refine' dic_get2 (knd := PySem.strKind _ _) ?zz451xa ?zz451xb ?zz451xc ?zz451xd (strKind_is _ _ _ _) ?_; (case zz451xa => k_asm); (case zz451xb => k_mem); (case zz451xc => assumption); (case zz451xd => assumption); k_whole)
  | (refine' dic_get1 (knd := PySem.intKind _ _) ?zz451xa ?zz451xb ?zz451xc ?zz451xd (intKind_is _ _ _ _) ?_; (case zz451xa => k_asm); (case zz451xb => k_mem); (case zz451xc => assumption); (case zz451xd => assumption); k_whole)); (try simp only [Option.getD_none, Option.getD_some, *]))
  k_with "call builtin:dict.setdefault" => (k_here; k_dflt (first
  | (refine' dic_default (knd := PySem.strKind _ _) ?zz452xa ?zz452xb ?zz452xc ?zz452xd ?zz452xe (strKind_is _ _ _ _) ?zz452xf ?zz452xg ?_; (case zz452xa => k_asm); (case zz452xb => k_asm); (case zz452xc => k_updF); (case zz452xd => assumption); (case zz452xe => assumption); (case zz452xf => omega); (case zz452xg => assumption); k_whole)
  | (refine' dic_default (knd := PySem.intKind _ _) ?zz452xa ?zz452xb ?zz452xc ?zz452xd ?zz452xe (intKind_is _ _ _ _) ?zz452xf ?zz452xg ?_; (case zz452xa => k_asm); (case zz452xb => k_asm); (case zz452xc => k_updF); (case zz452xd => assumption); (case zz452xe => assumption); (case zz452xf => omega); (case zz452xg => assumption); k_whole)); intro h' o' F' N' dc'; (try dsimp only at N' dc' F'); (try k_sweep))
  k_with "setItem ref str" => (k_here; k_dflt (refine' dic_set (knd := PySem.strKind _ _) ?zz453xa ?zz453xb ?zz453xc ?zz453xd (strKind_is _ _ _ _) ?zz453xf ?_; (case zz453xa => k_asm); (case zz453xb => k_asm); (case zz453xc => k_updF); (case zz453xd => assumption); (case zz453xf => omega); k_whole); intro h' o' F' N' dc'; (try dsimp only at N' dc' F'); (try k_sweep))
  k_with "newTuple" => (k_here; k_dflt (refine' kup_newTuple ?zz454xF ?zz454xN ?_ ?zz454xz; (case zz454xF => k_asm); (case zz454xN => k_asm); (case zz454xz => kmk_size)); intro D' h' F' N' l1; (try (k_dflt (have nd' := nd_cons l1 (by assumption)))); (try clear l1); (try k_sweep))
  k_with "newList" => (k_here; k_dflt (refine' newList_K ?zz455xk1 ?zz455xk2 ?_; (case zz455xk1 => k_asm); (case zz455xk2 => k_asm); k_whole); intro l' h' F' N' l1; (try (k_dflt (have nd' := nd_cons l1 (by assumption)))); (try clear l1); (try k_sweep))
  k_with "eval Dict" => (k_here; kdn_look; k_dflt (refine' kdn_str ?zz456xq ?zz456xF ?zz456xN ?zz456xb ?zz456xa ?zz456xl ?zz456xe ?zz456xn ?_; (case zz456xq => rfl); (case zz456xF => k_asm); (case zz456xN => k_asm); (case zz456xb => exact Top.nolimit (by k_asm)); (case zz456xa => rfl); (case zz456xl => rfl); (case zz456xe => exact List.cons_ne_nil _ _); (case zz456xn => exact Nat.le_of_ble_eq_true rfl)); intro d' h' o' F' N' l1 lo' hd'; (try (k_dflt (have nd' := nd_cons l1 (by assumption)))); clear l1)
  k_with "eval Dict nil nil" => (k_here; k_dflt (refine' newDict_K ?zz457xk1 ?zz457xk2 (TopRead.nolimit (by k_asm)) ?_; (case zz457xk1 => k_asm); (case zz457xk2 => k_asm); k_whole); intro d' h' o' F' N' l1 lo' hs' fs' hi' fi'; (try (k_dflt (have nd' := nd_cons l1 (by assumption)))); clear l1; (try k_sweep))
  k_with "compareOp NotIn" => (k_here; (with_reducible show wpAny _ _ (compareOp CmpOp.NotIn (Value.str _ _) (Value.ref _)) _ _ _); k_dflt (refine' tup_notIn ?zz458xa ?zz458xb ?zz458xc ?zz458xd ?zz458xe ?_; (case zz458xa => k_asm); (case zz458xb => k_asm); (case zz458xc => k_is); (case zz458xd => exact rfl); (case zz458xe => first | exact (rfl : _ = true) | exact (rfl : _ = false) | exact (by decide : _ = true) | exact (by decide : _ = false)); k_whole; (try dsimp only [Bool.not_true, Bool.not_false])))
  k_with "compareOp In" => (k_here; (with_reducible show wpAny _ _ (compareOp CmpOp.In (Value.str _ _) (Value.ref _)) _ _ _); k_dflt (refine' tup_in ?zz459xa ?zz459xb ?zz459xc ?zz459xd ?zz459xe ?_; (case zz459xa => k_asm); (case zz459xb => k_asm); (case zz459xc => k_is); (case zz459xd => exact rfl); (case zz459xe => first | exact (rfl : _ = true) | exact (rfl : _ = false) | exact (by decide : _ = true) | exact (by decide : _ = false)); k_whole))
  trivial




theorem oreg_sub {w : World} {mean : ExcName → Option Value} {mg mb : Str → Option Value}
    {dp un : Nat} {gd : Option (List Code)} {cn : Str} {cs : Scope} {a : Addr} {ccd : Value} {cl : List (Str × Addr)} {outer : List Env} {A₀ : Around} {base h₀ : Heap} {L : Addr} {m : Str → Option Value} {news : List (Addr × Obj)} {s : Shared}
    {Q E : Value → Shared → Prop} {rr drr : Addr} {odrr : Obj} {rnrr rorr ca ta : Addr} {e de : Addr} {oe : Obj} {kd nm : Str} {tk tn : Tok} {sv : Value} {ln : Int} {tl : Tok} {reg full : Value} {compl impl : Bool} {home uq nb pa : Value} {r : Addr} {na oa : Addr} {b : Nat} {tkk : Tok} {l0 l1 nsm : List (Addr × Obj)} {dr : Addr} {odr : Obj}
    (P1 : Pull (drr, odrr) l0 l1) (P2 : Pull (de, oe) l1 news) (hrr : (rr, instObj 113 drr) ∈ news) (rs : RootS b rr rnrr rorr ca ta odrr) (he : (e, instObj 77 de) ∈ news) (ae : Attrs 18 oe (at_ (entL kd tk nm tn sv ln tl reg full compl impl home uq nb pa))) (hb : b ≤ 900) (sr : SubR nsm rr r dr odr na oa) (hincl : ∀ p ∈ nsm, p ∈ news)
    (B : Below A₀ base outer h₀) (F : Fr h₀ L s.heap m) (KX : (Mine.K w.params).In h₀) (T : Top Mine.q0 (looseW Mine.q0 [Str.ofString "Limits"]) mean mg mb h₀) (hk : cs.kind = .function) (N : News h₀ L s.heap l0) (nd : (l0.map Prod.fst).Nodup) (hd : dp + 30 < recursionLimit) (hu : un + 700 < cLine)
    (hret : ∀ r' dr' odr' na' oa' on' co' odrr' oe' h' tks, RootS (b + 1) rr rnrr rorr ca ta odrr' → Attrs 18 oe' (at_ (entL kd tk nm tn sv ln tl (.ref r') full compl impl home uq nb pa)) → SubR ((r', instObj 113 dr') :: (dr', odr') :: nsm) rr r' dr' odr' na' oa' → Fr h₀ L h' m → News h₀ L h' ((drr, odrr') :: (de, oe') :: (na', on') :: (oa', PySem.W.listOf #[] co') :: (r', instObj 113 dr') :: (dr', odr') :: news) → (((drr, odrr') :: (de, oe') :: (na', on') :: (oa', PySem.W.listOf #[] co') :: (r', instObj 113 dr') :: (dr', odr') :: news).map Prod.fst).Nodup →
      NamS w 0 on' (fun _ => True) → (na' == sysModules) = false → Q (.ref r') { s with heap := h', toks := tks }) :
    wpAny (model PySem.Challenge.rw_rg0009_01.row.prog w) (ktrTop dp un gd cn cs L a ccd cl outer) (call (.ref 124) [.str (Str.ofString "package") tkk, .ref e, .ref r]) Q E s := by
  obtain ⟨tkrr, parr, Mr, tMr, nurr, tnurr, lvrr, tlvrr, ptrr, tptrr, arr, hM0, hM1⟩ := rs
  obtain ⟨hr, hdr, ⟨tkr, par, M1, tM1, nu, tnu, lv, tlv, pt, tpt, rc, rh, ar⟩, n, hc⟩ := sr
  replace hr := hincl _ hr
  replace hdr := hincl _ hdr
  replace N := Mine.News.perm N (P1.perm.trans (P2.perm.cons _))
  replace nd := nd_perm nd (P1.perm.trans (P2.perm.cons _))
  clear P1 P2
  (try w_top off); revert KX; k_fill; intro KX
  refine wpAny_call ?_
  (k_extra "ENTER")
  k_steps
  all_goals exact hret _ _ _ _ _ _ _ _ _ _ _ (RootS.mkN (by k_asm) (by k_mem) (by k_mem) (by assumption) (by decide) (by repeat' (first | exact List.forall_mem_nil _ | refine List.forall_mem_cons.mpr ⟨rfl, ?_⟩)) (by omega) (by omega)) (at_mkN (d := de) (by k_asm) (by k_mem) (by assumption) (by decide) (by repeat' (first | exact List.forall_mem_nil _ | refine List.forall_mem_cons.mpr ⟨rfl, ?_⟩))) (SubR.mkN (by k_asm) (by k_mem) (by k_mem) (by assumption) (by decide) (by repeat' (first | exact List.forall_mem_nil _ | refine List.forall_mem_cons.mpr ⟨rfl, ?_⟩)) hc) (by k_asm) (by ktr_rel) (nd_sp (by assumption) (by simp only [List.map_cons]; repeat (first | exact SubP.refl | exact SubP.nil | (apply SubP.cons; focus (repeat (first | exact PullA.head | apply PullA.tail))) | apply SubP.drop))) ⟨fun _ => none, 0, Dic.new (by assumption), Nat.le_refl _, fun _ _ => rfl⟩ (by assumption)

end Mine
end
section
open PySem PySem.W PyProof.Rows
namespace Mine
theorem ln34 : True := by
  k_with_none
  k_with "ENTER" => (first | (refine' code_def ?zz467xk1 ?zz467xk2 ?zz467xk3 ?zz467xk4 ?zz467xk5 ?zz467xkA ?zz467xkF ?zz467xkK ?zz467xk6 ?zz467xk7 ?zz467xk8 ?zz467xk9 ?zz467xkB ?_ ?zz467xc2 ?zz467xc3 ?zz467xc4 ?zz467xc5; (case zz467xkA => exact rfl); (case zz467xkF => exact rfl); (case zz467xkK => first | exact rfl | assumption); (case zz467xk1 => k_asm); (case zz467xk2 => k_asm); (case zz467xk3 => k_asm); (case zz467xk4 => k_asm); (case zz467xk5 => k_asm); (case zz467xk6 => k_is); (case zz467xk7 => k_is); (case zz467xk8 => ktr_room); (case zz467xk9 => first | exact BindsTo.of_eq (binds := []) rfl | exact BindsTo.of_eq (binds := [(_, _)]) rfl | exact BindsTo.of_eq (binds := [(_, _), (_, _)]) rfl | exact BindsTo.of_eq (binds := [(_, _), (_, _), (_, _)]) rfl | exact BindsTo.of_eq (binds := [(_, _), (_, _), (_, _), (_, _)]) rfl | exact BindsTo.of_eq (binds := [(_, _), (_, _), (_, _), (_, _), (_, _)]) rfl | exact BindsTo.of_eq (binds := [(_, _), (_, _), (_, _), (_, _), (_, _), (_, _)]) rfl | exact BindsTo.of_eq (binds := [(_, _), (_, _), (_, _), (_, _), (_, _), (_, _), (_, _)]) rfl | exact BindsTo.of_eq (binds := [(_, _), (_, _), (_, _), (_, _), (_, _), (_, _), (_, _), (_, _)]) rfl | exact BindsTo.of_eq (binds := [(_, _), (_, _), (_, _), (_, _), (_, _), (_, _), (_, _), (_, _), (_, _)]) rfl | exact BindsTo.of_eq (binds := [(_, _), (_, _), (_, _), (_, _), (_, _), (_, _), (_, _), (_, _), (_, _), (_, _)]) rfl | exact binds_K (by k_in) rfl (by k_is) rfl rfl rfl); (case zz467xc5 => decide); (case zz467xkB => exact locs rfl); (case zz467xc2 => exact rfl); (case zz467xc3 => exact rfl); (case zz467xc4 => exact rfl); k_whole; intro g' L' h' FG' F' N' B' X' T'; (try dsimp only); (try k_fold)) | (refine' code_defC ?zz467xk1 ?zz467xk2 ?zz467xk3 ?zz467xk4 ?zz467xk5 ?zz467xkA ?zz467xkF ?zz467xkK ?zz467xk6 ?zz467xk7 ?zz467xk8 ?zz467xk9 ?zz467xkB ?zz467xkD ?_ ?zz467xc2 ?zz467xc3 ?zz467xc4; (case zz467xkA => exact rfl); (case zz467xkF => exact rfl); (case zz467xkK => first | exact rfl | assumption); (case zz467xk1 => k_asm); (case zz467xk2 => k_asm); (case zz467xk3 => k_asm); (case zz467xk4 => k_asm); (case zz467xk5 => k_asm); (case zz467xk6 => k_is); (case zz467xk7 => k_is); (case zz467xk8 => ktr_room); (case zz467xk9 => first | exact BindsTo.of_eq (binds := []) rfl | exact BindsTo.of_eq (binds := [(_, _)]) rfl | exact BindsTo.of_eq (binds := [(_, _), (_, _)]) rfl | exact BindsTo.of_eq (binds := [(_, _), (_, _), (_, _)]) rfl | exact BindsTo.of_eq (binds := [(_, _), (_, _), (_, _), (_, _)]) rfl | exact BindsTo.of_eq (binds := [(_, _), (_, _), (_, _), (_, _), (_, _)]) rfl | exact BindsTo.of_eq (binds := [(_, _), (_, _), (_, _), (_, _), (_, _), (_, _)]) rfl | exact BindsTo.of_eq (binds := [(_, _), (_, _), (_, _), (_, _), (_, _), (_, _), (_, _)]) rfl | exact BindsTo.of_eq (binds := [(_, _), (_, _), (_, _), (_, _), (_, _), (_, _), (_, _), (_, _)]) rfl | exact BindsTo.of_eq (binds := [(_, _), (_, _), (_, _), (_, _), (_, _), (_, _), (_, _), (_, _), (_, _)]) rfl | exact BindsTo.of_eq (binds := [(_, _), (_, _), (_, _), (_, _), (_, _), (_, _), (_, _), (_, _), (_, _), (_, _)]) rfl | exact binds_K (by k_in) rfl (by k_is) rfl rfl rfl); (case zz467xkB => exact rfl); (case zz467xkD => decide +kernel); (case zz467xc2 => exact rfl); (case zz467xc3 => exact rfl); (case zz467xc4 => exact rfl); k_whole; intro g' L' h' tk' cells' FG' F' N' Y' B' X' T' l1; k_cells Y'; (try simp only [List.cons_append, List.nil_append] at N'); (try dsimp only); (try k_fold)))
  k_with "call ref" => (k_here; k_dflt (refine' mk_inst ?zz461xk1 ?zz461xk2 ?zz461xk3 ?zz461xk4 ?zz461xk5 ?zz461xk6 ?_; (case zz461xk1 => k_asm); (case zz461xk2 => k_asm); (case zz461xk3 => k_asm); (case zz461xk4 => k_is); (case zz461xk5 => k_is); (case zz461xk6 => k_is); k_whole; intro x' d' o' h' F' N' a' l1 l2; (have nd' := nd_cons2 l1 l2 (by assumption)); (try k_sweep); (k_extra "ENTER")))
  k_with "setAttr ref" => (k_here; k_dflt (refine' at_set ?zz462xk1 ?zz462xk2 ?zz462xk3 ?zz462xk4 ?zz462xk5 ?zz462xk6 ?zz462xk7 ?zz462xk8 ?zz462xk9 ?zz462xk10 ?zz462xk11 ?_; (case zz462xk1 => k_asm); (case zz462xk2 => k_asm); (case zz462xk3 => k_asm); (case zz462xk4 => k_mem); (case zz462xk5 => k_updF); (case zz462xk6 => assumption); (case zz462xk7 => k_is); (case zz462xk8 => k_is); (case zz462xk9 => k_is); (case zz462xk10 => k_is); (case zz462xk11 => exact Nat.le_of_ble_eq_true rfl); k_whole; intro h' o' F' N' a'; (try dsimp only at N' a' F'); (try k_sweep)))
  k_with "setAttr ref" => (k_here; k_dflt (refine' at_again ?zz463xk1 ?zz463xk2 ?zz463xk3 ?zz463xk4 ?zz463xk5 ?zz463xk6 ?zz463xk0 ?zz463xk7 ?zz463xk8 ?zz463xk9 ?zz463xk10 ?zz463xk11 ?_; (case zz463xk1 => k_asm); (case zz463xk2 => k_asm); (case zz463xk3 => k_asm); (case zz463xk4 => k_mem); (case zz463xk5 => k_updF); (case zz463xk6 => assumption); (case zz463xk0 => first | exact rfl | assumption); (case zz463xk7 => k_is); (case zz463xk8 => k_is); (case zz463xk9 => k_is); (case zz463xk10 => k_is); (case zz463xk11 => exact Nat.le_of_ble_eq_true rfl); k_whole; intro h' o' F' N' a'; (try dsimp only at N' a' F'); (try k_sweep)))
  k_with "getAttr ref" => (k_here; k_dflt (refine' at_get ?zz464xk1 ?zz464xk2 ?zz464xk3 ?zz464xk4 ?zz464xk5 ?zz464xk6 ?zz464xk7 ?zz464xk8 ?zz464xk9 ?zz464xk10 ?zz464xk11 ?zz464xk12 ?_; (case zz464xk1 => k_asm); (case zz464xk2 => k_asm); (case zz464xk3 => k_asm); (case zz464xk4 => k_mem); (case zz464xk5 => k_mem); (case zz464xk6 => assumption); (case zz464xk7 => first | exact rfl | assumption); (case zz464xk8 => k_is); (case zz464xk9 => k_is); (case zz464xk10 => k_is); (case zz464xk11 => k_is); (case zz464xk12 => k_handed); k_whole))
  k_with "call type:list" => (k_here; (with_reducible show wpAny _ _ (call (Value.type _) [Value.ref _]) _ _ _); (with_unfolding_all refine' list_copyK ?zz465xk1 ?zz465xk2 ?zz465xk3 ?_ ?zz465xz; (case zz465xk1 => k_asm); (case zz465xk2 => k_asm); (case zz465xk3 => exact News.isList (d := none) (sl := #[]) (by k_asm) (by k_mem)); (case zz465xz => size_fits); k_whole); intro D' c' h' F' N' l1; (have nd' := nd_cons l1 (by assumption)); (try k_sweep))
  k_with "compareOp Eq ref ref" => (k_here; (with_reducible show wpAny _ _ (compareOp CmpOp.Eq (Value.ref _) (Value.ref _)) _ _ _); k_dflt (refine' ke_eq_ints (xs := []) (ys := []) ?zz466xa ?zz466xb .nil .nil ?zz466xu ?_; (case zz466xa => exact News.isList (d := none) (sl := #[]) (items := #[]) (by k_asm) (by k_mem)); (case zz466xb => exact News.isList (d := none) (sl := #[]) (items := #[]) (by k_asm) (by k_mem)); (case zz466xu => ktr_units); k_whole))
  trivial



theorem oreg_c {w : World} {mean : ExcName → Option Value} {mg mb : Str → Option Value}
    {dp un : Nat} {gd : Option (List Code)} {cn : Str} {cs : Scope} {a : Addr} {ccd : Value} {cl : List (Str × Addr)} {outer : List Env} {A₀ : Around} {base h₀ : Heap} {L : Addr} {m : Str → Option Value} {news : List (Addr × Obj)} {s : Shared}
    {Q E : Value → Shared → Prop} {rr drr : Addr} {odrr : Obj} {rnrr rorr ca ta : Addr} {e de : Addr} {oe : Obj} {kd nm : Str} {tk tn : Tok} {sv : Value} {ln : Int} {tl : Tok} {reg full : Value} {compl impl : Bool} {home uq nb pa : Value} {r : Addr} {na oa : Addr} {b : Nat} {tkk : Tok} {l0 l1 nsm : List (Addr × Obj)}
    (P1 : Pull (drr, odrr) l0 l1) (P2 : Pull (de, oe) l1 news) (hrr : (rr, instObj 113 drr) ∈ news) (rs : RootS b rr rnrr rorr ca ta odrr) (he : (e, instObj 77 de) ∈ news) (ae : Attrs 18 oe (at_ (entL kd tk nm tn sv ln tl reg full compl impl home uq nb pa))) (hb : b ≤ 900) (hh : Home nsm rr r rnrr rorr na oa) (hincl : ∀ p ∈ nsm, p ∈ news)
    (B : Below A₀ base outer h₀) (F : Fr h₀ L s.heap m) (KX : (Mine.K w.params).In h₀) (T : Top Mine.q0 (looseW Mine.q0 [Str.ofString "Limits"]) mean mg mb h₀) (hk : cs.kind = .function) (N : News h₀ L s.heap l0) (nd : (l0.map Prod.fst).Nodup) (hd : dp + 30 < recursionLimit) (hu : un + 700 < cLine)
    (hret : ∀ r' dr' odr' na' oa' on' co' odrr' oe' h' tks, RootS (b + 1) rr rnrr rorr ca ta odrr' → Attrs 18 oe' (at_ (entL kd tk nm tn sv ln tl (.ref r') full compl impl home uq nb pa)) → SubR ((r', instObj 113 dr') :: (dr', odr') :: nsm) rr r' dr' odr' na' oa' → Fr h₀ L h' m → News h₀ L h' ((drr, odrr') :: (de, oe') :: (na', on') :: (oa', PySem.W.listOf #[] co') :: (r', instObj 113 dr') :: (dr', odr') :: news) → (((drr, odrr') :: (de, oe') :: (na', on') :: (oa', PySem.W.listOf #[] co') :: (r', instObj 113 dr') :: (dr', odr') :: news).map Prod.fst).Nodup →
      NamS w 0 on' (fun _ => True) → (na' == sysModules) = false → Q (.ref r') { s with heap := h', toks := tks }) :
    wpAny (model PySem.Challenge.rw_rg0009_01.row.prog w) (ktrTop dp un gd cn cs L a ccd cl outer) (call (.ref 124) [.str (Str.ofString "package") tkk, .ref e, .ref r]) Q E s := by
  rcases hh with ⟨rfl, rfl, rfl⟩ | ⟨dr, odr, sr⟩
  · exact oreg_top (na := 0) (oa := 0) (r := 0) P1 P2 hrr rs he ae hb hincl B F KX T hk N nd hd hu hret
  · exact oreg_sub P1 P2 hrr rs he ae hb sr hincl B F KX T hk N nd hd hu hret

end Mine
end
section
open PySem PySem.W PyProof.Rows
namespace Mine
theorem ln35 : True := by
  k_with_none
  k_with "ENTER" => (first | (refine' code_def ?zz494xk1 ?zz494xk2 ?zz494xk3 ?zz494xk4 ?zz494xk5 ?zz494xkA ?zz494xkF ?zz494xkK ?zz494xk6 ?zz494xk7 ?zz494xk8 ?zz494xk9 ?zz494xkB ?_ ?zz494xc2 ?zz494xc3 ?zz494xc4 ?zz494xc5; (case zz494xkA => exact rfl); (case zz494xkF => exact rfl); (case zz494xkK => first | exact rfl | assumption); (case zz494xk1 => k_asm); (case zz494xk2 => k_asm); (case zz494xk3 => k_asm); (case zz494xk4 => k_asm); (case zz494xk5 => k_asm); (case zz494xk6 => k_is); (case zz494xk7 => k_is); (case zz494xk8 => ktr_room); (case zz494xk9 => first | exact BindsTo.of_eq (binds := []) rfl | exact BindsTo.of_eq (binds := [(_, _)]) rfl | exact BindsTo.of_eq (binds := [(_, _), (_, _)]) rfl | exact BindsTo.of_eq (binds := [(_, _), (_, _), (_, _)]) rfl | exact BindsTo.of_eq (binds := [(_, _), (_, _), (_, _), (_, _)]) rfl | exact BindsTo.of_eq (binds := [(_, _), (_, _), (_, _), (_, _), (_, _)]) rfl | exact BindsTo.of_eq (binds := [(_, _), (_, _), (_, _), (_, _), (_, _), (_, _)]) rfl | exact BindsTo.of_eq (binds := [(_, _), (_, _), (_, _), (_, _), (_, _), (_, _), (_, _)]) rfl | exact BindsTo.of_eq (binds := [(_, _), (_, _), (_, _), (_, _), (_, _), (_, _), (_, _), (_, _)]) rfl | exact BindsTo.of_eq (binds := [(_, _), (_, _), (_, _), (_, _), (_, _), (_, _), (_, _), (_, _), (_, _)]) rfl | exact BindsTo.of_eq (binds := [(_, _), (_, _), (_, _), (_, _), (_, _), (_, _), (_, _), (_, _), (_, _), (_, _)]) rfl | exact binds_K (by k_in) rfl (by k_is) rfl rfl rfl); (case zz494xc5 => decide); (case zz494xkB => exact locs rfl); (case zz494xc2 => exact rfl); (case zz494xc3 => exact rfl); (case zz494xc4 => exact rfl); k_whole; intro g' L' h' FG' F' N' B' X' T'; (try dsimp only); (try k_fold)) | (refine' code_defC ?zz494xk1 ?zz494xk2 ?zz494xk3 ?zz494xk4 ?zz494xk5 ?zz494xkA ?zz494xkF ?zz494xkK ?zz494xk6 ?zz494xk7 ?zz494xk8 ?zz494xk9 ?zz494xkB ?zz494xkD ?_ ?zz494xc2 ?zz494xc3 ?zz494xc4; (case zz494xkA => exact rfl); (case zz494xkF => exact rfl); (case zz494xkK => first | exact rfl | assumption); (case zz494xk1 => k_asm); (case zz494xk2 => k_asm); (case zz494xk3 => k_asm); (case zz494xk4 => k_asm); (case zz494xk5 => k_asm); (case zz494xk6 => k_is); (case zz494xk7 => k_is); (case zz494xk8 => ktr_room); (case zz494xk9 => first | exact BindsTo.of_eq (binds := []) rfl | exact BindsTo.of_eq (binds := [(_, _)]) rfl | exact BindsTo.of_eq (binds := [(_, _), (_, _)]) rfl | exact BindsTo.of_eq (binds := [(_, _), (_, _), (_, _)]) rfl | exact BindsTo.of_eq (binds := [(_, _), (_, _), (_, _), (_, _)]) rfl | exact BindsTo.of_eq (binds := [(_, _), (_, _), (_, _), (_, _), (_, _)]) rfl | exact BindsTo.of_eq (binds := [(_, _), (_, _), (_, _), (_, _), (_, _), (_, _)]) rfl | exact BindsTo.of_eq (binds := [(_, _), (_, _), (_, _), (_, _), (_, _), (_, _), (_, _)]) rfl | exact BindsTo.of_eq (binds := [(_, _), (_, _), (_, _), (_, _), (_, _), (_, _), (_, _), (_, _)]) rfl | exact BindsTo.of_eq (binds := [(_, _), (_, _), (_, _), (_, _), (_, _), (_, _), (_, _), (_, _), (_, _)]) rfl | exact BindsTo.of_eq (binds := [(_, _), (_, _), (_, _), (_, _), (_, _), (_, _), (_, _), (_, _), (_, _), (_, _)]) rfl | exact binds_K (by k_in) rfl (by k_is) rfl rfl rfl); (case zz494xkB => exact rfl); (case zz494xkD => decide +kernel); (case zz494xc2 => exact rfl); (case zz494xc3 => exact rfl); (case zz494xc4 => exact rfl); k_whole; intro g' L' h' tk' cells' FG' F' N' Y' B' X' T' l1; k_cells Y'; (try simp only [List.cons_append, List.nil_append] at N'); (try dsimp only); (try k_fold)))
  k_with "call ref" => (k_here; k_dflt (refine' mk_inst ?zz468xk1 ?zz468xk2 ?zz468xk3 ?zz468xk4 ?zz468xk5 ?zz468xk6 ?_; (case zz468xk1 => k_asm); (case zz468xk2 => k_asm); (case zz468xk3 => k_asm); (case zz468xk4 => k_is); (case zz468xk5 => k_is); (case zz468xk6 => k_is); k_whole; intro x' d' o' h' F' N' a' l1 l2; (have nd' := nd_cons2 l1 l2 (by assumption)); (try k_sweep); (k_extra "ENTER")))
  k_with "setAttr ref" => (k_here; k_dflt (refine' at_set ?zz469xk1 ?zz469xk2 ?zz469xk3 ?zz469xk4 ?zz469xk5 ?zz469xk6 ?zz469xk7 ?zz469xk8 ?zz469xk9 ?zz469xk10 ?zz469xk11 ?_; (case zz469xk1 => k_asm); (case zz469xk2 => k_asm); (case zz469xk3 => k_asm); (case zz469xk4 => k_mem); (case zz469xk5 => k_updF); (case zz469xk6 => assumption); (case zz469xk7 => k_is); (case zz469xk8 => k_is); (case zz469xk9 => k_is); (case zz469xk10 => k_is); (case zz469xk11 => exact Nat.le_of_ble_eq_true rfl); k_whole; intro h' o' F' N' a'; (try dsimp only at N' a' F'); (try k_sweep)))
  k_with "setAttr ref" => (k_here; k_dflt (refine' at_again ?zz470xk1 ?zz470xk2 ?zz470xk3 ?zz470xk4 ?zz470xk5 ?zz470xk6 ?zz470xk0 ?zz470xk7 ?zz470xk8 ?zz470xk9 ?zz470xk10 ?zz470xk11 ?_; (case zz470xk1 => k_asm); (case zz470xk2 => k_asm); (case zz470xk3 => k_asm); (case zz470xk4 => k_mem); (case zz470xk5 => k_updF); (case zz470xk6 => assumption); (case zz470xk0 => first | exact rfl | assumption); (case zz470xk7 => k_is); (case zz470xk8 => k_is); (case zz470xk9 => k_is); (case zz470xk10 => k_is); (case zz470xk11 => exact Nat.le_of_ble_eq_true rfl); k_whole; intro h' o' F' N' a'; (try dsimp only at N' a' F'); (try k_sweep)))
  k_with "getAttr ref" => (k_here; k_dflt (refine' at_get ?zz471xk1 ?zz471xk2 ?zz471xk3 ?zz471xk4 ?zz471xk5 ?zz471xk6 ?zz471xk7 ?zz471xk8 ?zz471xk9 ?zz471xk10 ?zz471xk11 ?zz471xk12 ?_; (case zz471xk1 => k_asm); (case zz471xk2 => k_asm); (case zz471xk3 => k_asm); (case zz471xk4 => k_mem); (case zz471xk5 => k_mem); (case zz471xk6 => assumption); (case zz471xk7 => first | exact rfl | assumption); (case zz471xk8 => k_is); (case zz471xk9 => k_is); (case zz471xk10 => k_is); (case zz471xk11 => k_is); (case zz471xk12 => k_handed); k_whole))
  k_with "call type:list" => (k_here; (with_reducible show wpAny _ _ (call (Value.type _) [Value.ref _]) _ _ _); (with_unfolding_all refine' list_copyK ?zz472xk1 ?zz472xk2 ?zz472xk3 ?_ ?zz472xz; (case zz472xk1 => k_asm); (case zz472xk2 => k_asm); (case zz472xk3 => exact News.isList (d := none) (sl := #[]) (by k_asm) (by k_mem)); (case zz472xz => size_fits); k_whole); intro D' c' h' F' N' l1; (have nd' := nd_cons l1 (by assumption)); (try k_sweep))
  k_with "compareOp Eq ref ref" => (k_here; (with_reducible show wpAny _ _ (compareOp CmpOp.Eq (Value.ref _) (Value.ref _)) _ _ _); k_dflt (refine' ke_eq_ints (xs := []) (ys := []) ?zz473xa ?zz473xb .nil .nil ?zz473xu ?_; (case zz473xa => exact News.isList (d := none) (sl := #[]) (items := #[]) (by k_asm) (by k_mem)); (case zz473xb => exact News.isList (d := none) (sl := #[]) (items := #[]) (by k_asm) (by k_mem)); (case zz473xu => ktr_units); k_whole))
  k_with "getMethod ref" => (k_here; k_dflt (first | ((with_reducible show wpAny _ _ (getMethod (Value.ref _) (Str.ofString "get") _) _ _ _); refine' dic_method (knd := PySem.strKind _ _) PySem.F.slot_dict_get PySem.F.type_dict_get ?zz474xa ?zz474xb ?zz474xc ?_; (case zz474xa => k_asm); (case zz474xb => k_mem); (case zz474xc => assumption); k_whole) | ((with_reducible show wpAny _ _ (getMethod (Value.ref _) (Str.ofString "get") _) _ _ _); refine' dic_method (knd := PySem.intKind _ _) PySem.F.slot_dict_get PySem.F.type_dict_get ?zz474xa ?zz474xb ?zz474xc ?_; (case zz474xa => k_asm); (case zz474xb => k_mem); (case zz474xc => assumption); k_whole) | ((with_reducible show wpAny _ _ (getMethod (Value.ref _) (Str.ofString "setdefault") _) _ _ _); refine' dic_method (knd := PySem.strKind _ _) PySem.F.slot_dict_setdefault PySem.F.type_dict_setdefault ?zz474xa ?zz474xb ?zz474xc ?_; (case zz474xa => k_asm); (case zz474xb => k_mem); (case zz474xc => assumption); k_whole) | ((with_reducible show wpAny _ _ (getMethod (Value.ref _) (Str.ofString "setdefault") _) _ _ _); refine' dic_method (knd := PySem.intKind _ _) PySem.F.slot_dict_setdefault PySem.F.type_dict_setdefault ?zz474xa ?zz474xb ?zz474xc ?_; (case zz474xa => k_asm); (case zz474xb => k_mem); (case zz474xc => assumption); k_whole)))
  k_with "call builtin:dict.get" => (k_here; k_dflt (first
  | (refine' dic_get2 (knd := PySem.strKind _ _) ?zz475xa ?zz475xb ?zz475xc ?zz475xd (strKind_is _ _ _ _) ?_; (case zz475xa => k_asm); (case zz475xb => k_mem); (case zz475xc => assumption); (case zz475xd => assumption); k_whole)
  | (refine' dic_get1 (knd := PySem.intKind _ _) ?zz475xa ?zz475xb ?zz475xc ?zz475xd (intKind_is _ _ _ _) ?_; (case zz475xa => k_asm); (case zz475xb => k_mem); (case zz475xc => assumption); (case zz475xd => assumption); k_whole)); (try simp only [Option.getD_none, Option.getD_some, *]))
  k_with "call builtin:dict.setdefault" => (k_here; k_dflt (first
  | (refine' dic_default (knd := PySem.strKind _ _) ?zz476xa ?zz476xb ?zz476xc ?zz476xd ?zz476xe (strKind_is _ _ _ _) ?zz476xf ?zz476xg ?_; (case zz476xa => k_asm); (case zz476xb => k_asm); (case zz476xc => k_updF); (case zz476xd => assumption); (case zz476xe => assumption); (case zz476xf => omega); (case zz476xg => assumption); k_whole)
  | (refine' dic_default (knd := PySem.intKind _ _) ?zz476xa ?zz476xb ?zz476xc ?zz476xd ?zz476xe (intKind_is _ _ _ _) ?zz476xf ?zz476xg ?_; (case zz476xa => k_asm); (case zz476xb => k_asm); (case zz476xc => k_updF); (case zz476xd => assumption); (case zz476xe => assumption); (case zz476xf => omega); (case zz476xg => assumption); k_whole)); intro h' o' F' N' dc'; (try dsimp only at N' dc' F'); (try k_sweep))
  k_with "setItem ref str" => (k_here; k_dflt (refine' dic_set (knd := PySem.strKind _ _) ?zz477xa ?zz477xb ?zz477xc ?zz477xd (strKind_is _ _ _ _) ?zz477xf ?_; (case zz477xa => k_asm); (case zz477xb => k_asm); (case zz477xc => k_updF); (case zz477xd => assumption); (case zz477xf => omega); k_whole); intro h' o' F' N' dc'; (try dsimp only at N' dc' F'); (try k_sweep))
  k_with "newTuple" => (k_here; k_dflt (refine' kup_newTuple ?zz478xF ?zz478xN ?_ ?zz478xz; (case zz478xF => k_asm); (case zz478xN => k_asm); (case zz478xz => kmk_size)); intro D' h' F' N' l1; (try (k_dflt (have nd' := nd_cons l1 (by assumption)))); (try clear l1); (try k_sweep))
  k_with "newList" => (k_here; k_dflt (refine' newList_K ?zz479xk1 ?zz479xk2 ?_; (case zz479xk1 => k_asm); (case zz479xk2 => k_asm); k_whole); intro l' h' F' N' l1; (try (k_dflt (have nd' := nd_cons l1 (by assumption)))); (try clear l1); (try k_sweep))
  k_with "eval Dict" => (k_here; kdn_look; k_dflt (refine' kdn_str ?zz480xq ?zz480xF ?zz480xN ?zz480xb ?zz480xa ?zz480xl ?zz480xe ?zz480xn ?_; (case zz480xq => rfl); (case zz480xF => k_asm); (case zz480xN => k_asm); (case zz480xb => exact Top.nolimit (by k_asm)); (case zz480xa => rfl); (case zz480xl => rfl); (case zz480xe => exact List.cons_ne_nil _ _); (case zz480xn => exact Nat.le_of_ble_eq_true rfl)); intro d' h' o' F' N' l1 lo' hd'; (try (k_dflt (have nd' := nd_cons l1 (by assumption)))); clear l1)
  k_with "eval Dict nil nil" => (k_here; k_dflt (refine' newDict_K ?zz481xk1 ?zz481xk2 (TopRead.nolimit (by k_asm)) ?_; (case zz481xk1 => k_asm); (case zz481xk2 => k_asm); k_whole); intro d' h' o' F' N' l1 lo' hs' fs' hi' fi'; (try (k_dflt (have nd' := nd_cons l1 (by assumption)))); clear l1; (try k_sweep))
  k_with "exec For" => (k_here; k_dflt (refine' For_own ?zz482xF ?zz482xhx ?zz482xhp ?_ ?zz482xhs ?zz482xhE; (case zz482xF => k_asm); (case zz482xhx => exact rfl); (case zz482xhp => exact rfl); (case zz482xhs => intro _; exact rfl); (case zz482xhE => first | passes_own | (subst ek; passes_own) | (unfold ek; passes_own)); k_whole))
  k_with "eval Name" => (k_here; (with_reducible show wpAny _ _ (eval (Expr.Name _ _) (envOf _ _ _ _ _)) _ _ _); k_dflt (refine' ldE ?zz483xk1 ?zz483xk2 ?zz483xk3 ?zz483xk4 ?zz483xk5 ?_; (case zz483xk1 => k_asm); (case zz483xk2 => assumption); (case zz483xk3 => exact rfl); (case zz483xk4 => exact rfl); (case zz483xk5 => decide); k_whole))
  k_with "eval Name" => (k_here; (with_reducible show wpAny _ _ (eval (Expr.Name _ _) (envOfC _ _ _ _ _)) _ _ _); k_dflt (refine' ldC ?zz484xk1 ?zz484xk2 ?zz484xk3 ?zz484xk4 ?zz484xk5 ?_; (case zz484xk1 => k_asm); (case zz484xk2 => assumption); (case zz484xk3 => exact rfl); (case zz484xk4 => exact rfl); (case zz484xk5 => decide); k_whole))
  k_with "subscriptTail" => (k_here; (with_reducible show wpAny _ _ (subscriptTail _ _ (Value.ref _) (Value.int _ _)) _ _ _); k_dflt (refine' tup2_at ?zz485xN ?zz485xm ?zz485xa ?zz485xb ?zz485xs ?_ ?_; (case zz485xN => k_asm); (case zz485xm => k_mem); (case zz485xa => omega); (case zz485xb => omega); (case zz485xs => (intro _; with_unfolding_all rfl))); intro rz')
  k_with "CompQ" => (k_dflt (first
  | (refine CompQ.none (by k_asm) (by k_asm) (Src1.dict0 (by k_mem) (by assumption) (by assumption)) ?_; (intro D0 c its h' tk' hits' F' N' hne'); subst hits'; (try (have nd' := nd_consN hne' (by assumption))))
  | (refine CompQ.all (rv := Str.ofString "f.1") (by k_asm) (by k_asm) (Src1.dict1 (by k_mem) (by assumption : Obj.IsDictOf _ _ [(_, Value.str (Str.ofString "f.1") _)]) (by assumption)) ?_ ?_; (focus (intro C s₃ m₃ tk' E' F₃ N₃ hx')); rotate_left; (intro D0 c its h' tk' hits' F' N' hne'); (obtain ⟨tq', hq'⟩ := hits'); subst hq'; (try (have nd' := nd_consN hne' (by assumption))); rotate_left)
  | (refine CompQ.all (rv := Str.ofString "") (by k_asm) (by k_asm) (Src1.dict1 (by k_mem) (by assumption : Obj.IsDictOf _ _ [(_, Value.str (Str.ofString "") _)]) (by assumption)) ?_ ?_; (focus (intro C s₃ m₃ tk' E' F₃ N₃ hx')); rotate_left; (intro D0 c its h' tk' hits' F' N' hne'); (obtain ⟨tq', hq'⟩ := hits'); subst hq'; (try (have nd' := nd_consN hne' (by assumption))); rotate_left)); (try dsimp only))
  k_with "rung!" => (refine Stop.off ?_; k_dflt (refine' rung_c ?zz487xB ?zz487xF ?zz487xKX ?zz487xT ?zz487xhk ?zz487xN ?zz487xhd ?zz487xhu ?zz487xq1 ?zz487xq2 ?zz487xq3 ?zz487xq4 ?zz487xq5 ?zz487xq6 ?zz487xq7 ?_; (case zz487xB => k_asm); (case zz487xF => k_asm); (case zz487xKX => k_asm); (case zz487xT => k_asm); (case zz487xhk => first | exact rfl | assumption); (case zz487xN => k_asm); (case zz487xhd => ktr_room); (case zz487xhu => ktr_units); (case zz487xq1 => k_updF); (case zz487xq2 => assumption); (case zz487xq3 => omega); (case zz487xq4 => omega); (case zz487xq5 => omega); (case zz487xq6 => omega); (case zz487xq7 => omega); k_whole))
  k_with "ent!" => (refine Stop.off ?_; k_dflt (refine' ent_c ?zz488xB ?zz488xF ?zz488xKX ?zz488xT ?zz488xhk ?zz488xN ?zz488xnd ?zz488xhd ?zz488xhu ?_; (case zz488xB => k_asm); (case zz488xF => k_asm); (case zz488xKX => k_asm); (case zz488xT => k_asm); (case zz488xhk => first | exact rfl | assumption); (case zz488xN => k_asm); (case zz488xhd => ktr_room); (case zz488xhu => ktr_units); (case zz488xnd => assumption); k_whole))
  k_with "dr!" => (refine Stop.off ?_; k_dflt (refine' dr_c ?zz489xhe0 ?zz489xhrr0 ?zz489xhrr ?zz489xrs ?zz489xhe ?zz489xae ?zz489xhh ?zz489xhincl ?zz489xcns ?zz489xloc ?zz489xns ?zz489xhfr ?zz489xlon ?zz489xhit ?zz489xhb ?zz489xhkd ?zz489xhnm ?zz489xP1 ?zz489xP2 ?zz489xP3 ?zz489xP4 ?zz489xP5 ?zz489xB ?zz489xF ?zz489xKX ?zz489xT ?zz489xhk ?zz489xN ?zz489xnd ?zz489xhd ?zz489xhu ?_; (case zz489xB => k_asm); (case zz489xF => k_asm); (case zz489xKX => k_asm); (case zz489xT => k_asm); (case zz489xhk => first | exact rfl | assumption); (case zz489xN => k_asm); (case zz489xhd => ktr_room); (case zz489xhu => ktr_units); (case zz489xhe0 => k_mem); (case zz489xhrr0 => k_mem); (case zz489xrs => assumption); (case zz489xhh => assumption); (case zz489xcns => assumption); (case zz489xloc => assumption); (case zz489xns => assumption); (case zz489xhfr => assumption); (case zz489xlon => assumption); (case zz489xP1 => repeat (first | exact Pull.head | apply Pull.tail)); (case zz489xP2 => repeat (first | exact Pull.head | apply Pull.tail)); (case zz489xP3 => repeat (first | exact Pull.head | apply Pull.tail)); (case zz489xP4 => repeat (first | exact Pull.head | apply Pull.tail)); (case zz489xP5 => repeat (first | exact Pull.head | apply Pull.tail)); (case zz489xhincl => intro p hp; repeat (first | exact hp | apply List.Mem.tail)); (case zz489xhrr => k_mem); (case zz489xhe => k_mem); (case zz489xae => first | assumption | (refine Attrs.pick (by assumption) ?_; repeat' (first | exact List.forall_mem_nil _ | refine List.forall_mem_cons.mpr ⟨rfl, ?_⟩))); (case zz489xhit => first | assumption | omega); (case zz489xhb => omega); (case zz489xhkd => first | rfl | decide); (case zz489xhnm => assumption); (case zz489xnd => assumption); k_whole))
  k_with "oreg!" => (refine Stop.off ?_; k_dflt (refine' oreg_c ?zz490xP1 ?zz490xP2 ?zz490xq1 ?zz490xq2 ?zz490xq3 ?zz490xq4 ?zz490xq5 ?zz490xhh ?zz490xhincl ?zz490xB ?zz490xF ?zz490xKX ?zz490xT ?zz490xhk ?zz490xN ?zz490xnd ?zz490xhd ?zz490xhu ?_; (case zz490xB => k_asm); (case zz490xF => k_asm); (case zz490xKX => k_asm); (case zz490xT => k_asm); (case zz490xhk => first | exact rfl | assumption); (case zz490xN => k_asm); (case zz490xhd => ktr_room); (case zz490xhu => ktr_units); (case zz490xhh => assumption); (case zz490xq2 => assumption); (case zz490xq4 => first | assumption | (refine Attrs.pick (by assumption) ?_; repeat' (first | exact List.forall_mem_nil _ | refine List.forall_mem_cons.mpr ⟨rfl, ?_⟩))); (case zz490xP1 => repeat (first | exact Pull.head | apply Pull.tail)); (case zz490xP2 => repeat (first | exact Pull.head | apply Pull.tail)); (case zz490xq1 => k_mem); (case zz490xq3 => k_mem); (case zz490xhincl => intro p hp; repeat (first | exact hp | apply List.Mem.tail)); (case zz490xnd => assumption); (case zz490xq5 => omega); k_whole))
  k_with "call ref" => (k_here; refine Stop.on ?_)
  k_with "pyIter ref" => (k_here; refine Stop.on ?_)
  k_with "eval BinOp Subscript" => (k_here; refine Stop.on ?_)
  trivial



def FillC (w : World) (mean : ExcName → Option Value) (mg mb : Str → Option Value) (δ : Int) (kd ud kb bb : Nat) (P : List (Addr × Obj) → (Int → Option Value) → Addr → Addr → Bool → Prop) : Prop :=
  ∀ {dp un : Nat} {gd : Option (List Code)} {cn : Str} {cs : Scope} {a : Addr} {ccd : Value} {cl : List (Str × Addr)} {outer : List Env} {A₀ : Around} {base h₀ : Heap} {L : Addr} {m : Str → Option Value} {news : List (Addr × Obj)} {s : Shared}
    {Q E : Value → Shared → Prop} {ld rr drr : Addr} {ol odrr oc ot on : Obj} {rnrr rorr ca ta na oa : Addr} {r : Addr} {k : Int} {n b co : Nat} {ft : Int → Option Value} {tδ : Tok}
    (hl : Lad ol k n) (hn : n ≤ 64) (h0 : 0 ≤ k) (h1 : k + kb ≤ 900) (hrr : (rr, instObj 113 drr) ∈ news) (rs : RootS b rr rnrr rorr ca ta odrr) (hh : Home news rr r rnrr rorr na oa) (cns : CntS w b oc) (loc : (ca == sysModules) = false) (hs : HomS w b k ot ft) (lot : (ta == sysModules) = false)
    (ns : NamS w b on (fun _ => True)) (lon : (na == sysModules) = false) (hb : b + bb ≤ 800)
    (B : Below A₀ base outer h₀) (F : Fr h₀ L s.heap m) (KX : (Mine.K w.params).In h₀) (T : Top Mine.q0 (looseW Mine.q0 [Str.ofString "Limits"]) mean mg mb h₀) (hk : cs.kind = .function) (N : News h₀ L s.heap ((ld, ol) :: (drr, odrr) :: (ca, oc) :: (ta, ot) :: (na, on) :: (oa, PySem.W.listOf #[] co) :: news)) (nd : (((ld, ol) :: (drr, odrr) :: (ca, oc) :: (ta, ot) :: (na, on) :: (oa, PySem.W.listOf #[] co) :: news).map Prod.fst).Nodup) (hd : dp + kd < recursionLimit) (hu : un + ud < cLine)
    (hret : ∀ (es : List (Addr × Bool)) ol' odrr' oc' ot' on' c' ext k' b' ft' h' tks, Fr h₀ L h' m → News h₀ L h' ((ld, ol') :: (drr, odrr') :: (ca, oc') :: (ta, ot') :: (na, on') :: (oa, PySem.W.listOf (List.toArray (es.map fun p : Addr × Bool => Value.ref p.1)) c') :: (ext ++ news)) → (((ld, ol') :: (drr, odrr') :: (ca, oc') :: (ta, ot') :: (na, on') :: (oa, PySem.W.listOf (List.toArray (es.map fun p : Addr × Bool => Value.ref p.1)) c') :: (ext ++ news)).map Prod.fst).Nodup → k ≤ k' → k' ≤ k + kb → Lad ol' k' n → RootS b' rr rnrr rorr ca ta odrr' → b ≤ b' → b' ≤ b + bb →
      CntS w b' oc' → HomS w b' k' ot' ft' → (∀ j v, ft j = some v → ft' j = some v) → (∀ p ∈ es, EntW w (P ext ft' rr) ext ft' r p.1 p.2) → Q (.bool (es.all (·.2))) { s with heap := h', toks := tks }),
    wpAny (model PySem.Challenge.rw_rg0009_01.row.prog w) (ktrTop dp un gd cn cs L a ccd cl outer) (call (.ref 329) [.ref ld, .ref r, .int δ tδ]) Q E s

theorem fill_step {w : World} {mean : ExcName → Option Value} {mg mb : Str → Option Value} {δ : Int} {kd ud kb bb : Nat} {P Pin : List (Addr × Obj) → (Int → Option Value) → Addr → Addr → Bool → Prop} (d0 : 0 ≤ δ) (d2 : δ < 3) (hk6 : 5 ≤ kb) (hkd : 80 ≤ kd) (hud : 1200 ≤ ud)
    (hP : ∀ {news news' ft ft' rr r b}, (∀ p ∈ news, p ∈ news') → (∀ j v, ft j = some v → ft' j = some v) → P news ft rr r b → P news' ft' rr r b)
    (hPin : ∀ {news news' ft ft' rr r b}, (∀ p ∈ news, p ∈ news') → (∀ j v, ft j = some v → ft' j = some v) → Pin news ft rr r b → Pin news' ft' rr r b)
    (hin : δ < 2 → ∀ {news ft rr r b}, RegW w Pin news ft rr r b → P news ft rr r b) (ih : δ < 2 → FillC w mean mg mb (δ + 1) kd ud kb bb Pin) : FillC w mean mg mb δ (kd + 10) (ud + 100) (1 + 3 * (2 + kb)) (3 * (2 + bb)) P := by
  intro dp un gd cn cs a ccd cl outer A₀ base h₀ L m news s Q E ld rr drr ol odrr oc ot on rnrr rorr ca ta na oa r k n b co ft tδ hl hn h0 h1 hrr rs hh cns loc hs lot ns lon hb B F KX T hk N nd hd hu hret
  (try w_top off); revert KX; k_fill; intro KX
  refine wpAny_call ?_
  (k_extra "ENTER")
  k_steps
  walk_at "rung!"
  intro r1 tr1 ol1 h1' tk1 F1 N1 ld1 r1a r1b; (try dsimp only at N1); k_sweep; (try dsimp only)
  k_steps
  refine Stop.off ?_
  rename IsRange _ _ _ _ _ _ _ _ => hrg
  refine iter_rangeJ (n := (1 + r1).toNat) (news := (ld, ol1) :: (drr, odrr) :: (ca, oc) :: (ta, ot) :: (na, on) :: (oa, PySem.W.listOf #[] co) :: news) (FillJ w P δ tδ n ld rr drr ca ta rnrr rorr r na oa k b kb bb ft news) rfl hrg (small3 r1a r1b) (size3 r1a r1b) (by k_asm) (by k_asm) nd ?_ ?_ ?_
  · exact ⟨[], ol1, odrr, oc, ot, on, co, [], k + 1, b, ft, rfl, ld1, rs, cns, hs.le (by omega), ns.le (Nat.le_refl _) (fun _ _ => trivial), fun _ _ h => h, Nat.zero_le _, by omega, by omega, by omega, by omega, (fun _ h => nomatch h), rfl, rfl, rfl, rfl⟩
  · clear ld1 rs cns hs ns nd N
    intro i t m₁ nx h2 tk2 I oI hi hJ F₁ N₁ nd₁
    obtain ⟨es, ol2, odrr2, oc2, ot2, on2, co2, ext, k2, b2, ft2, rfl, hl2, rs2, cns2, hs2, ns2, hmono2, hlen2, hka, hkb, hba, hbb, hes2, mlet, mlad, mreg, mdeep⟩ := hJ
    k_sweep
    have hi3 : i < 3 := by omega
    have hz : (0:Int) + (i:Int) = i := by omega
    rw [hz] at F₁
    obtain ⟨z, hzi⟩ : ∃ z : Int, (i : Int) = z := ⟨_, rfl⟩
    rw [hzi] at F₁ ns2
    have hz0 : 0 ≤ z := by omega
    have hz3 : z < 3 := by omega
    clear hz
    obtain ⟨X, hX⟩ : ∃ X, X = i * (2 + kb) := ⟨_, rfl⟩
    obtain ⟨Y, hY⟩ : ∃ Y, Y = i * (2 + bb) := ⟨_, rfl⟩
    have hX1 : (i + 1) * (2 + kb) = X + (2 + kb) := by rw [hX]; exact Nat.succ_mul _ _
    have hY1 : (i + 1) * (2 + bb) = Y + (2 + bb) := by rw [hY]; exact Nat.succ_mul _ _
    have hX2 : X ≤ 2 * (2 + kb) := by rw [hX]; exact Nat.mul_le_mul_right _ (by omega)
    have hY2 : Y ≤ 2 * (2 + bb) := by rw [hY]; exact Nat.mul_le_mul_right _ (by omega)
    rw [← hX] at hkb
    rw [← hY] at hbb
    have hsub2 : ∀ p ∈ news, p ∈ ext ++ news := fun p hp => List.mem_append_right _ hp
    have hrr2 := hsub2 _ hrr
    have hh2 := hh.sub hsub2
    have endT : ∀ (e : Addr) (v : Bool) (ol5 odrr5 oc5 ot5 on5 : Obj) (c5 : Nat) (ext5 : List (Addr × Obj)) (k5 : Int) (b5 : Nat) (ft5 : Int → Option Value) (m5 : Str → Option Value), Lad ol5 k5 n → RootS b5 rr rnrr rorr ca ta odrr5 → CntS w b5 oc5 → HomS w b5 k5 ot5 ft5 → NamS w b5 on5 (fun x => freshN δ z x ∧ x ≠ nmN z δ) → (∀ j v, ft2 j = some v → ft5 j = some v) →
        k2 ≤ k5 → k5 ≤ k2 + 2 + kb → b2 ≤ b5 → b5 ≤ b2 + 2 + bb → EntW w (P (ext5 ++ ext) ft5 rr) (ext5 ++ ext) ft5 r e v → m5 (Str.ofString "is_let") = some (.bool (es.all (·.2) && v)) → m5 (Str.ofString "ladder") = some (.ref ld) → m5 (Str.ofString "region") = some (.ref r) → m5 (Str.ofString "deep") = some (.int δ tδ) →
        FillJ w P δ tδ n ld rr drr ca ta rnrr rorr r na oa k b kb bb ft news (i + 1) m5 ((ld, ol5) :: (drr, odrr5) :: (ca, oc5) :: (ta, ot5) :: (na, on5) :: (oa, PySem.W.listOf ((List.toArray (es.map fun p : Addr × Bool => Value.ref p.1)).push (.ref e)) c5) :: ((ext5 ++ ext) ++ news)) := by
      intro e v ol5 odrr5 oc5 ot5 on5 c5 ext5 k5 b5 ft5 m5 hl5 rs5 cns5 hs5 ns5 hm5 q1 q2 q3 q4 he5 a1 a2 a3 a4
      refine ⟨es ++ [(e, v)], ol5, odrr5, oc5, ot5, on5, c5, ext5 ++ ext, k5, b5, ft5, by rw [map_push], hl5, rs5, cns5, hs5, ns5.le (Nat.le_refl _) (fun x hx => ?_), fun j v h => hm5 _ _ (hmono2 _ _ h), ?_, by omega, by rw [hX1]; omega, by omega, by rw [hY1]; omega, ?_, by rw [all_app]; exact a1, a2, a3, a4⟩
      · refine freshN.next hz0 d0 d2 ?_
        have e9 : ((i + 1 : Nat) : Int) = z + 1 := by omega
        rw [e9] at hx
        exact hx
      · rw [List.length_append]; exact Nat.succ_le_succ hlen2
      · intro p hp
        rcases List.mem_append.mp hp with hp | hp
        · exact (hes2 p hp).sub (fun q hq => List.mem_append_right _ hq) hm5 (fun r b h => hP (fun q hq => List.mem_append_right _ hq) hm5 h)
        · rw [List.mem_singleton.mp hp]; exact he5
    have hk0 : 0 ≤ k2 := by omega
    have hk9 : k2 + 2 + kb ≤ 900 := by omega
    have hb9 : b2 + 2 + bb ≤ 800 := by omega
    have hsz9 : (List.toArray (es.map fun p : Addr × Bool => Value.ref p.1)).size ≤ 900 := by simp only [List.size_toArray, List.length_map]; omega
    have hnx0 : ∀ x, freshN δ ((i + 1 : Nat) : Int) x → freshN δ z x := fun x hx => (freshN.next hz0 d0 d2 (by rw [show z + 1 = ((i + 1 : Nat) : Int) by omega]; exact hx)).1
    have hlen3 : es.length ≤ i + 1 := by omega
    have hk8 : k + 1 ≤ k2 + 1 := by omega
    have hk7 : k2 + 1 ≤ k + 1 + (((i + 1) * (2 + kb) : Nat) : Int) := by rw [hX1]; omega
    have hb7 : b2 ≤ b + (i + 1) * (2 + bb) := by rw [hY1]; omega
    have hfr := freshN.now (δ := δ) hz3
    have hnice := nmN_nice hz0 hz3 d0 d2
    have hsz : (List.toArray (es.map fun p : Addr × Bool => Value.ref p.1)).size ≤ 1000 := by simp only [List.size_toArray, List.length_map]; omega
    obtain ⟨il, hil⟩ : ∃ il, es.all (·.2) = il := ⟨_, rfl⟩
    rw [hil] at mlet
    clear hX1 hX2 hY1 hY2 hX hY hkb hbb hka hlen2 hi hi3 h1 hb r1a r1b h0
    k_steps
    refine Stop.off ?_
    refine join_ (fun v s' => Hold (∃ tn tk', v = Value.str (nmN z δ) tn ∧ s' = { s with heap := h2, toks := tk' })) ?_ ?_
    · clear hzi
      rcases three hz0 hz3 with rfl | rfl | rfl <;> rcases three d0 d2 with rfl | rfl | rfl
      all_goals (refine wpAny_BinOp ?_; k_steps)
      all_goals first | exact ⟨_, _, rfl, rfl⟩
    rintro _ _ ⟨tn, tk3, rfl, rfl⟩
    dsimp only
    k_steps
    walk_at "rung!"
    intro r2 tr2 ol3 h4 tk4 F4 N4 ld4 r2a r2b; (try dsimp only at N4); k_sweep; (try dsimp only)
    rcases (by omega : r2 < 3 ∨ r2 = 3 ∨ r2 = 4) with hr2 | rfl | rfl
    · k_steps
      refine Stop.off ?_
      refine ltype_c (k := k2 + 1) (fresh := freshN δ z) (items := List.toArray (es.map fun p : Addr × Bool => Value.ref p.1)) (news := (I, oI) :: (ext ++ news)) ld4 hn (by omega) (by omega) (.tail _ hrr2) rs2 (hh2.sub fun p hp => .tail _ hp) cns2 loc (hs2.le (by omega)) lot ns2 (freshN.now hz3) lon hsz9 (by omega) (nmN_nice hz0 hz3 d0 d2) (by k_asm) (by k_asm) (by k_asm) (by k_asm) (by exact rfl) (by ktr_rel) (nd_sp nd₁ (by simp only [List.map_cons]; repeat (first | exact SubP.refl | exact SubP.nil | (apply SubP.cons; focus (repeat (first | exact PullA.head | apply PullA.tail))) | apply SubP.drop))) (by ktr_room) (by ktr_units) ?_
      intro e v ol5 odrr5 oc5 ot5 on5 c5 ext5 k5 ft5 h6 tk6 F6 N6 nd6 q1 q2 hl5 rs5 cns5 hs5 hm5 ns5 hent
      k_sweep
      have N7 := Mine.News.mid (H := [_, _, _, _, _, _]) (E := ext5) (M := [(I, oI)]) (R := ext ++ news) N6
      have nd7 := nd_mid (H := [_, _, _, _, _, _]) (E := ext5) (M := [(I, oI)]) (R := ext ++ news) nd6
      simp only [List.cons_append, List.nil_append, ← List.append_assoc] at N7 nd7
      clear N6 nd6
      dsimp only
      cases v with
      | false =>
        k_steps
        all_goals exact TurnJ.intro (by k_asm) (by ktr_rel) (nd_spx nd7 (by simp only [List.map_cons]; repeat (first | exact SubP.refl | exact SubP.nil | (apply SubP.cons; focus (repeat (first | exact PullA.head | apply PullA.tail))) | apply SubP.drop))) (endT e false ol5 odrr5 oc5 ot5 on5 c5 ext5 k5 _ ft5 _ hl5 rs5 cns5 hs5 ns5 hm5 (by omega) (by omega) (by omega) (by omega) ((hent _).sub (fun q hq => List.mem_append_left _ hq) (fun _ _ h => h) fun _ _ h => h) (by rw [Bool.and_false]; exact rfl) (by exact mlad) (by exact mreg) (by exact mdeep))
      | true =>
        k_steps
        all_goals exact TurnJ.intro (by k_asm) (by ktr_rel) (nd_spx nd7 (by simp only [List.map_cons]; repeat (first | exact SubP.refl | exact SubP.nil | (apply SubP.cons; focus (repeat (first | exact PullA.head | apply PullA.tail))) | apply SubP.drop))) (endT e true ol5 odrr5 oc5 ot5 on5 c5 ext5 k5 _ ft5 _ hl5 rs5 cns5 hs5 ns5 hm5 (by omega) (by omega) (by omega) (by omega) ((hent _).sub (fun q hq => List.mem_append_left _ hq) (fun _ _ h => h) fun _ _ h => h) (by rw [Bool.and_true, hil]; exact rfl) (by exact mlad) (by exact mreg) (by exact mdeep))
    · k_steps
      walk_at "rung!"
      intro r5 tr5 ol5 h5 tk5 F5 N5 ld5 r5a r5b; (try dsimp only at N5); k_sweep; (try dsimp only)
      k_steps
      · walk_at "ent!"
        intro e de oe uq nb pa h7 tk7 F7 N7 nd7 a7; k_sweep; (try dsimp only)
        k_steps
        walk_at "rung!"
        intro r6 tr6 ol6 h8 tk8 F8 N8 ld8 r6a r6b; (try dsimp only at N8); k_sweep; (try dsimp only)
        k_steps
        walk_at "dr!"
        intro oe4 odrr5 oc5 on5 uq5 nb5 pa5 c5 h10 tk10 F10 N10 nd10 ae10 rs5 cns5 ns5; (try dsimp only at N10); k_sweep; (try dsimp only)
        generalize decide (0 < r6) = cp at *
        cases il <;> cases cp
        all_goals k_steps
        all_goals exact TurnJ.intro (by k_asm) (by simp only [List.cons_append, List.nil_append]; ktr_rel) (nd_spx nd10 (by simp only [List.cons_append, List.nil_append, List.map_cons]; repeat (first | exact SubP.refl | exact SubP.nil | (apply SubP.cons; focus (repeat (first | exact PullA.head | apply PullA.tail))) | apply SubP.drop))) (endT e _ _ odrr5 oc5 _ on5 c5 [(e, instObj 77 de), (de, oe4)] _ _ ft2 _ ld8 rs5 cns5 (hs2.le2 (by omega) (by omega)) ns5 (fun _ _ h => h) (by omega) (by omega) (by omega) (by omega) ⟨de, _, _, _, _, _, _, _, _, _, _, _, _, _, _, _, .head _, .tail _ (.head _), ae10, .obj⟩ (by rw [hil]; exact rfl) (by exact mlad) (by exact mreg) (by exact mdeep))
      · walk_at "ent!"
        intro e de oe uq nb pa h7 tk7 F7 N7 nd7 a7; k_sweep; (try dsimp only)
        k_steps
        walk_at "rung!"
        intro r6 tr6 ol6 h8 tk8 F8 N8 ld8 r6a r6b; (try dsimp only at N8); k_sweep; (try dsimp only)
        k_steps
        walk_at "dr!"
        intro oe4 odrr5 oc5 on5 uq5 nb5 pa5 c5 h10 tk10 F10 N10 nd10 ae10 rs5 cns5 ns5; (try dsimp only at N10); k_sweep; (try dsimp only)
        generalize decide (0 < r6) = cp at *
        cases il <;> cases cp
        all_goals k_steps
        all_goals exact TurnJ.intro (by k_asm) (by simp only [List.cons_append, List.nil_append]; ktr_rel) (nd_spx nd10 (by simp only [List.cons_append, List.nil_append, List.map_cons]; repeat (first | exact SubP.refl | exact SubP.nil | (apply SubP.cons; focus (repeat (first | exact PullA.head | apply PullA.tail))) | apply SubP.drop))) (endT e _ _ odrr5 oc5 _ on5 c5 [(e, instObj 77 de), (de, oe4)] _ _ ft2 _ ld8 rs5 cns5 (hs2.le2 (by omega) (by omega)) ns5 (fun _ _ h => h) (by omega) (by omega) (by omega) (by omega) ⟨de, _, _, _, _, _, _, _, _, _, _, _, _, _, _, _, .head _, .tail _ (.head _), ae10, .gen⟩ (by rw [hil]; exact rfl) (by exact mlad) (by exact mreg) (by exact mdeep))
    · by_cases hδ : δ < 2
      · k_steps
        walk_at "ent!"
        intro e de oe uq nb pa h7 tk7 F7 N7 nd7 a7; k_sweep; (try dsimp only)
        k_steps
        walk_at "rung!"
        intro r6 tr6 ol6 h8 tk8 F8 N8 ld8 r6a r6b; (try dsimp only at N8); k_sweep; (try dsimp only)
        k_steps
        walk_at "dr!"
        intro oe4 odrr5 oc5 on5 uq5 nb5 pa5 c5 h10 tk10 F10 N10 nd10 ae10 rs5 cns5 ns5; (try dsimp only at N10); k_sweep; (try dsimp only)
        k_steps
        walk_at "oreg!"
        intro r' dr' odr' na' oa' on6 co6 odrr6 oe6 h11 tk11 rs6 ae6 sr6 F11 N11 nd11 ns6 lon6; (try dsimp only at N11); k_sweep; (try dsimp only)
        k_steps
        refine Stop.off ?_
        have ihc : FillC w mean mg mb (δ + 1) kd ud kb bb Pin := @ih hδ
        refine ihc (k := k2 + 1 + 1) (b := b2 + 1 + 1) (ft := ft2) (news := (I, oI) :: (na, on5) :: (oa, PySem.W.listOf ((List.toArray (es.map fun p : Addr × Bool => Value.ref p.1)).push (.ref e)) c5) :: (e, instObj 77 de) :: (de, oe6) :: (r', instObj 113 dr') :: (dr', odr') :: (ext ++ news)) ld8 hn (by omega) (by omega) (.tail _ (.tail _ (.tail _ (.tail _ (.tail _ (.tail _ (.tail _ hrr2))))))) rs6 (.inr ⟨dr', odr', sr6.sub (by intro p hp; repeat (first | exact hp | apply List.Mem.tail))⟩) (cns5.le (by omega)) loc (hs2.le2 (by omega) (by omega)) lot (ns6.le (Nat.zero_le _) (fun _ h => h)) lon6 (by omega) (by k_asm) (by k_asm) (by k_asm) (by k_asm) (by exact rfl) (by ktr_rel) (nd_spx nd11 (by simp only [List.map_cons]; repeat (first | exact SubP.refl | exact SubP.nil | (apply SubP.cons; focus (repeat (first | exact PullA.head | apply PullA.tail))) | apply SubP.drop))) (by ktr_room) (by ktr_units) ?_
        intro es7 ol7 odrr7 oc7 ot7 on7 c7 ext7 k7 b7 ft7 h12 tk12 F12 N12 nd12 q1 q2 hl7 rs7 q3 q4 cns7 hs7 hm7 hes7
        k_sweep
        have N13 := Mine.News.mid (H := [_, _, _, _, _, _]) (E := ext7) (M := [_, _, _, _, _, _, _]) (R := ext ++ news) N12
        have nd13 := nd_mid (H := [_, _, _, _, _, _]) (E := ext7) (M := [_, _, _, _, _, _, _]) (R := ext ++ news) nd12
        simp only [List.cons_append, List.nil_append, ← List.append_assoc] at N13 nd13
        clear N12 nd12
        dsimp only
        obtain ⟨ii, hii⟩ : ∃ ii, es7.all (·.2) = ii := ⟨_, rfl⟩
        have hinr : RegW w Pin (((na', on7) :: (oa', PySem.W.listOf (List.toArray (es7.map fun p : Addr × Bool => Value.ref p.1)) c7) :: (e, instObj 77 de) :: (de, oe6) :: (r', instObj 113 dr') :: (dr', odr') :: ext7) ++ ext) ft7 rr r' ii := by
          obtain ⟨s1, s2, ⟨tkr, par, M1, tM1, nu, tnu, lv, tlv, pt, tpt, rc, rh, ar⟩, _⟩ := sr6
          have up7 : ∀ p ∈ ext7, p ∈ ((na', on7) :: (oa', PySem.W.listOf (List.toArray (es7.map fun p : Addr × Bool => Value.ref p.1)) c7) :: (e, instObj 77 de) :: (de, oe6) :: (r', instObj 113 dr') :: (dr', odr') :: ext7) ++ ext := fun p hp => List.mem_append_left _ (.tail _ (.tail _ (.tail _ (.tail _ (.tail _ (.tail _ hp))))))
          refine ⟨dr', odr', _, tkr, .ref par, M1, tM1, nu, tnu, lv, tlv, pt, tpt, na', oa', rc, rh, c7, es7, ?_, ?_, ar, ?_, fun p hp => (hes7 p hp).sub up7 (fun _ _ h => h) (fun r b h => hPin up7 (fun _ _ h => h) h), hii.symm⟩
          all_goals (simp only [List.cons_append]; k_mem)
        clear hes7 ih ihc
        rw [hii]
        generalize (r6 == 1) = cp at *
        cases il <;> cases ii <;> cases cp
        all_goals k_steps
        all_goals exact TurnJ.intro (by k_asm) (by simp only [List.cons_append, List.nil_append]; ktr_rel) (nd_spx nd13 (by simp only [List.cons_append, List.nil_append, List.map_cons]; repeat (first | exact SubP.refl | exact SubP.nil | (apply SubP.cons; focus (repeat (first | exact PullA.head | apply PullA.tail))) | apply SubP.drop))) (endT e _ _ odrr7 oc7 _ on5 c5 ((na', on7) :: (oa', PySem.W.listOf (List.toArray (es7.map fun p : Addr × Bool => Value.ref p.1)) c7) :: (e, instObj 77 de) :: (de, oe6) :: (r', instObj 113 dr') :: (dr', odr') :: ext7) _ _ ft7 _ hl7 rs7 cns7 hs7 (ns5.le (by omega) (fun _ h => h)) hm7 (by omega) (by omega) (by omega) (by omega) ⟨de, _, _, _, _, _, _, _, _, _, _, _, _, _, _, _, by simp only [List.cons_append]; k_mem, by simp only [List.cons_append]; k_mem, ae6, .pkg (hin hδ hinr)⟩ (by rw [hil]; exact rfl) (by exact mlad) (by exact mreg) (by exact mdeep))
      · k_steps
        all_goals exact TurnJ.intro (by k_asm) (by ktr_rel) (by exact nd₁) ⟨es, ol3, odrr2, oc2, ot2, on2, co2, ext, k2 + 1, b2, ft2, rfl, ld4, rs2, cns2, hs2.le (by omega), ns2.le (Nat.le_refl _) hnx0, hmono2, hlen3, hk8, hk7, hba, hb7, hes2, by rw [hil]; exact mlet, by exact mlad, by exact mreg, by exact mdeep⟩
  · clear ih hin hP hPin
    intro m₁ nx h2 tk2 hJ F₁ N₁ nd₁
    obtain ⟨es, ol2, odrr2, oc2, ot2, on2, co2, ext, k2, b2, ft2, rfl, hl2, rs2, cns2, hs2, ns2, hmono2, hlen2, hka, hkb, hba, hbb, hes2, mlet, mlad, mreg, mdeep⟩ := hJ
    k_sweep
    have hX2 : (1 + r1).toNat * (2 + kb) ≤ 3 * (2 + kb) := Nat.mul_le_mul_right _ (by omega)
    have hY2 : (1 + r1).toNat * (2 + bb) ≤ 3 * (2 + bb) := Nat.mul_le_mul_right _ (by omega)
    generalize (1 + r1).toNat * (2 + kb) = X at *
    generalize (1 + r1).toNat * (2 + bb) = Y at *
    dsimp only
    k_steps
    all_goals first | exact hret es _ _ _ _ _ _ ext _ _ _ _ _ (by k_asm) (by ktr_rel) nd₁ (by omega) (by omega) hl2 rs2 hba (by omega) cns2 hs2 hmono2 hes2

end Mine
end
section

open PySem PySem.W PyProof.Rows
namespace Mine
section
variable {w : World} {mean : ExcName → Option Value} {mg mb : Str → Option Value}
abbrev NoP : List (Addr × Obj) → (Int → Option Value) → Addr → Addr → Bool → Prop := fun _ _ _ _ _ => False
theorem fill2 : FillC w mean mg mb 2 90 1300 22 6 NoP :=
  fill_step (δ := 2) (P := NoP) (Pin := NoP) (kd := 80) (ud := 1200) (kb := 5) (bb := 0) (by decide) (by decide) (by decide) (by decide) (by decide) (fun _ _ h => h.elim) (fun _ _ h => h.elim) (fun h => absurd h (by decide)) (fun h => absurd h (by decide))
theorem fill1 : FillC w mean mg mb 1 100 1400 73 24 (RegN w 0) :=
  fill_step (δ := 1) (P := RegN w 0) (Pin := NoP) (kd := 90) (ud := 1300) (kb := 22) (bb := 6) (by decide) (by decide) (by decide) (by decide) (by decide) (fun a b h => RegN.sub a b h) (fun _ _ h => h.elim) (fun _ => fun h => h) (fun _ => @fill2 w mean mg mb)
theorem fill0 : FillC w mean mg mb 0 110 1500 226 78 (RegN w 1) :=
  fill_step (δ := 0) (P := RegN w 1) (Pin := RegN w 0) (kd := 100) (ud := 1400) (kb := 73) (bb := 24) (by decide) (by decide) (by decide) (by decide) (by decide) (fun a b h => RegN.sub a b h) (fun a b h => RegN.sub a b h) (fun _ => fun h => h) (fun _ => @fill1 w mean mg mb)
theorem bodies0 : BodiesC w mean mg mb 70 1100 (RegN w 2) :=
  bodies_step (k := 60) (u := 1000) (bodies_step (k := 50) (u := 900) (bodies_step (k := 40) (u := 800) (bodies_none 40 800) (by decide) (by decide)) (by decide) (by decide)) (by decide) (by decide)
end
end Mine
end
section
open PySem PySem.W PyProof.Rows
namespace Mine
theorem ln36 : True := by
  k_with_none
  k_with "ENTER" => (first | (refine' code_def ?zz510xk1 ?zz510xk2 ?zz510xk3 ?zz510xk4 ?zz510xk5 ?zz510xkA ?zz510xkF ?zz510xkK ?zz510xk6 ?zz510xk7 ?zz510xk8 ?zz510xk9 ?zz510xkB ?_ ?zz510xc2 ?zz510xc3 ?zz510xc4 ?zz510xc5; (case zz510xkA => exact rfl); (case zz510xkF => exact rfl); (case zz510xkK => first | exact rfl | assumption); (case zz510xk1 => k_asm); (case zz510xk2 => k_asm); (case zz510xk3 => k_asm); (case zz510xk4 => k_asm); (case zz510xk5 => k_asm); (case zz510xk6 => k_is); (case zz510xk7 => k_is); (case zz510xk8 => ktr_room); (case zz510xk9 => first | exact BindsTo.of_eq (binds := []) rfl | exact BindsTo.of_eq (binds := [(_, _)]) rfl | exact BindsTo.of_eq (binds := [(_, _), (_, _)]) rfl | exact BindsTo.of_eq (binds := [(_, _), (_, _), (_, _)]) rfl | exact BindsTo.of_eq (binds := [(_, _), (_, _), (_, _), (_, _)]) rfl | exact BindsTo.of_eq (binds := [(_, _), (_, _), (_, _), (_, _), (_, _)]) rfl | exact BindsTo.of_eq (binds := [(_, _), (_, _), (_, _), (_, _), (_, _), (_, _)]) rfl | exact BindsTo.of_eq (binds := [(_, _), (_, _), (_, _), (_, _), (_, _), (_, _), (_, _)]) rfl | exact BindsTo.of_eq (binds := [(_, _), (_, _), (_, _), (_, _), (_, _), (_, _), (_, _), (_, _)]) rfl | exact BindsTo.of_eq (binds := [(_, _), (_, _), (_, _), (_, _), (_, _), (_, _), (_, _), (_, _), (_, _)]) rfl | exact BindsTo.of_eq (binds := [(_, _), (_, _), (_, _), (_, _), (_, _), (_, _), (_, _), (_, _), (_, _), (_, _)]) rfl | exact binds_K (by k_in) rfl (by k_is) rfl rfl rfl); (case zz510xc5 => decide); (case zz510xkB => exact locs rfl); (case zz510xc2 => exact rfl); (case zz510xc3 => exact rfl); (case zz510xc4 => exact rfl); k_whole; intro g' L' h' FG' F' N' B' X' T'; (try dsimp only); (try k_fold)) | (refine' code_defC ?zz510xk1 ?zz510xk2 ?zz510xk3 ?zz510xk4 ?zz510xk5 ?zz510xkA ?zz510xkF ?zz510xkK ?zz510xk6 ?zz510xk7 ?zz510xk8 ?zz510xk9 ?zz510xkB ?zz510xkD ?_ ?zz510xc2 ?zz510xc3 ?zz510xc4; (case zz510xkA => exact rfl); (case zz510xkF => exact rfl); (case zz510xkK => first | exact rfl | assumption); (case zz510xk1 => k_asm); (case zz510xk2 => k_asm); (case zz510xk3 => k_asm); (case zz510xk4 => k_asm); (case zz510xk5 => k_asm); (case zz510xk6 => k_is); (case zz510xk7 => k_is); (case zz510xk8 => ktr_room); (case zz510xk9 => first | exact BindsTo.of_eq (binds := []) rfl | exact BindsTo.of_eq (binds := [(_, _)]) rfl | exact BindsTo.of_eq (binds := [(_, _), (_, _)]) rfl | exact BindsTo.of_eq (binds := [(_, _), (_, _), (_, _)]) rfl | exact BindsTo.of_eq (binds := [(_, _), (_, _), (_, _), (_, _)]) rfl | exact BindsTo.of_eq (binds := [(_, _), (_, _), (_, _), (_, _), (_, _)]) rfl | exact BindsTo.of_eq (binds := [(_, _), (_, _), (_, _), (_, _), (_, _), (_, _)]) rfl | exact BindsTo.of_eq (binds := [(_, _), (_, _), (_, _), (_, _), (_, _), (_, _), (_, _)]) rfl | exact BindsTo.of_eq (binds := [(_, _), (_, _), (_, _), (_, _), (_, _), (_, _), (_, _), (_, _)]) rfl | exact BindsTo.of_eq (binds := [(_, _), (_, _), (_, _), (_, _), (_, _), (_, _), (_, _), (_, _), (_, _)]) rfl | exact BindsTo.of_eq (binds := [(_, _), (_, _), (_, _), (_, _), (_, _), (_, _), (_, _), (_, _), (_, _), (_, _)]) rfl | exact binds_K (by k_in) rfl (by k_is) rfl rfl rfl); (case zz510xkB => exact rfl); (case zz510xkD => decide +kernel); (case zz510xc2 => exact rfl); (case zz510xc3 => exact rfl); (case zz510xc4 => exact rfl); k_whole; intro g' L' h' tk' cells' FG' F' N' Y' B' X' T' l1; k_cells Y'; (try simp only [List.cons_append, List.nil_append] at N'); (try dsimp only); (try k_fold)))
  k_with "call ref" => (k_here; k_dflt (refine' mk_inst ?zz496xk1 ?zz496xk2 ?zz496xk3 ?zz496xk4 ?zz496xk5 ?zz496xk6 ?_; (case zz496xk1 => k_asm); (case zz496xk2 => k_asm); (case zz496xk3 => k_asm); (case zz496xk4 => k_is); (case zz496xk5 => k_is); (case zz496xk6 => k_is); k_whole; intro x' d' o' h' F' N' a' l1 l2; (have nd' := nd_cons2 l1 l2 (by assumption)); (try k_sweep); (k_extra "ENTER")))
  k_with "setAttr ref" => (k_here; k_dflt (refine' at_set ?zz497xk1 ?zz497xk2 ?zz497xk3 ?zz497xk4 ?zz497xk5 ?zz497xk6 ?zz497xk7 ?zz497xk8 ?zz497xk9 ?zz497xk10 ?zz497xk11 ?_; (case zz497xk1 => k_asm); (case zz497xk2 => k_asm); (case zz497xk3 => k_asm); (case zz497xk4 => k_mem); (case zz497xk5 => k_updF); (case zz497xk6 => assumption); (case zz497xk7 => k_is); (case zz497xk8 => k_is); (case zz497xk9 => k_is); (case zz497xk10 => k_is); (case zz497xk11 => exact Nat.le_of_ble_eq_true rfl); k_whole; intro h' o' F' N' a'; (try dsimp only at N' a' F'); (try k_sweep)))
  k_with "setAttr ref" => (k_here; k_dflt (refine' at_again ?zz498xk1 ?zz498xk2 ?zz498xk3 ?zz498xk4 ?zz498xk5 ?zz498xk6 ?zz498xk0 ?zz498xk7 ?zz498xk8 ?zz498xk9 ?zz498xk10 ?zz498xk11 ?_; (case zz498xk1 => k_asm); (case zz498xk2 => k_asm); (case zz498xk3 => k_asm); (case zz498xk4 => k_mem); (case zz498xk5 => k_updF); (case zz498xk6 => assumption); (case zz498xk0 => first | exact rfl | assumption); (case zz498xk7 => k_is); (case zz498xk8 => k_is); (case zz498xk9 => k_is); (case zz498xk10 => k_is); (case zz498xk11 => exact Nat.le_of_ble_eq_true rfl); k_whole; intro h' o' F' N' a'; (try dsimp only at N' a' F'); (try k_sweep)))
  k_with "getAttr ref" => (k_here; k_dflt (refine' at_get ?zz499xk1 ?zz499xk2 ?zz499xk3 ?zz499xk4 ?zz499xk5 ?zz499xk6 ?zz499xk7 ?zz499xk8 ?zz499xk9 ?zz499xk10 ?zz499xk11 ?zz499xk12 ?_; (case zz499xk1 => k_asm); (case zz499xk2 => k_asm); (case zz499xk3 => k_asm); (case zz499xk4 => k_mem); (case zz499xk5 => k_mem); (case zz499xk6 => assumption); (case zz499xk7 => first | exact rfl | assumption); (case zz499xk8 => k_is); (case zz499xk9 => k_is); (case zz499xk10 => k_is); (case zz499xk11 => k_is); (case zz499xk12 => k_handed); k_whole))
  k_with "call type:list" => (k_here; (with_reducible show wpAny _ _ (call (Value.type _) [Value.ref _]) _ _ _); (with_unfolding_all refine' list_copyK ?zz500xk1 ?zz500xk2 ?zz500xk3 ?_ ?zz500xz; (case zz500xk1 => k_asm); (case zz500xk2 => k_asm); (case zz500xk3 => exact News.isList (d := none) (sl := #[]) (by k_asm) (by k_mem)); (case zz500xz => size_fits); k_whole); intro D' c' h' F' N' l1; (have nd' := nd_cons l1 (by assumption)); (try k_sweep))
  k_with "compareOp Eq ref ref" => (k_here; (with_reducible show wpAny _ _ (compareOp CmpOp.Eq (Value.ref _) (Value.ref _)) _ _ _); k_dflt (refine' ke_eq_ints (xs := []) (ys := []) ?zz501xa ?zz501xb .nil .nil ?zz501xu ?_; (case zz501xa => exact News.isList (d := none) (sl := #[]) (items := #[]) (by k_asm) (by k_mem)); (case zz501xb => exact News.isList (d := none) (sl := #[]) (items := #[]) (by k_asm) (by k_mem)); (case zz501xu => ktr_units); k_whole))
  k_with "getMethod ref" => (k_here; k_dflt (first | ((with_reducible show wpAny _ _ (getMethod (Value.ref _) (Str.ofString "get") _) _ _ _); refine' dic_method (knd := PySem.strKind _ _) PySem.F.slot_dict_get PySem.F.type_dict_get ?zz502xa ?zz502xb ?zz502xc ?_; (case zz502xa => k_asm); (case zz502xb => k_mem); (case zz502xc => assumption); k_whole) | ((with_reducible show wpAny _ _ (getMethod (Value.ref _) (Str.ofString "get") _) _ _ _); refine' dic_method (knd := PySem.intKind _ _) PySem.F.slot_dict_get PySem.F.type_dict_get ?zz502xa ?zz502xb ?zz502xc ?_; (case zz502xa => k_asm); (case zz502xb => k_mem); (case zz502xc => assumption); k_whole) | ((with_reducible show wpAny _ _ (getMethod (Value.ref _) (Str.ofString "setdefault") _) _ _ _); refine' dic_method (knd := PySem.strKind _ _) PySem.F.slot_dict_setdefault PySem.F.type_dict_setdefault ?zz502xa ?zz502xb ?zz502xc ?_; (case zz502xa => k_asm); (case zz502xb => k_mem); (case zz502xc => assumption); k_whole) | ((with_reducible show wpAny _ _ (getMethod (Value.ref _) (Str.ofString "setdefault") _) _ _ _); refine' dic_method (knd := PySem.intKind _ _) PySem.F.slot_dict_setdefault PySem.F.type_dict_setdefault ?zz502xa ?zz502xb ?zz502xc ?_; (case zz502xa => k_asm); (case zz502xb => k_mem); (case zz502xc => assumption); k_whole)))
  k_with "call builtin:dict.get" => (k_here; k_dflt (first
  | (refine' dic_get2 (knd := PySem.strKind _ _) ?zz503xa ?zz503xb ?zz503xc ?zz503xd (strKind_is _ _ _ _) ?_; (case zz503xa => k_asm); (case zz503xb => k_mem); (case zz503xc => assumption); (case zz503xd => assumption); k_whole)
  | (refine' dic_get1 (knd := PySem.intKind _ _) ?zz503xa ?zz503xb ?zz503xc ?zz503xd (intKind_is _ _ _ _) ?_; (case zz503xa => k_asm); (case zz503xb => k_mem); (case zz503xc => assumption); (case zz503xd => assumption); k_whole)); (try simp only [Option.getD_none, Option.getD_some, *]))
  k_with "call builtin:dict.setdefault" => (k_here; k_dflt (first
  | (refine' dic_default (knd := PySem.strKind _ _) ?zz504xa ?zz504xb ?zz504xc ?zz504xd ?zz504xe (strKind_is _ _ _ _) ?zz504xf ?zz504xg ?_; (case zz504xa => k_asm); (case zz504xb => k_asm); (case zz504xc => k_updF); (case zz504xd => assumption); (case zz504xe => assumption); (case zz504xf => omega); (case zz504xg => assumption); k_whole)
  | (refine' dic_default (knd := PySem.intKind _ _) ?zz504xa ?zz504xb ?zz504xc ?zz504xd ?zz504xe (intKind_is _ _ _ _) ?zz504xf ?zz504xg ?_; (case zz504xa => k_asm); (case zz504xb => k_asm); (case zz504xc => k_updF); (case zz504xd => assumption); (case zz504xe => assumption); (case zz504xf => omega); (case zz504xg => assumption); k_whole)); intro h' o' F' N' dc'; (try dsimp only at N' dc' F'); (try k_sweep))
  k_with "setItem ref str" => (k_here; k_dflt (refine' dic_set (knd := PySem.strKind _ _) ?zz505xa ?zz505xb ?zz505xc ?zz505xd (strKind_is _ _ _ _) ?zz505xf ?_; (case zz505xa => k_asm); (case zz505xb => k_asm); (case zz505xc => k_updF); (case zz505xd => assumption); (case zz505xf => omega); k_whole); intro h' o' F' N' dc'; (try dsimp only at N' dc' F'); (try k_sweep))
  k_with "newTuple" => (k_here; k_dflt (refine' kup_newTuple ?zz506xF ?zz506xN ?_ ?zz506xz; (case zz506xF => k_asm); (case zz506xN => k_asm); (case zz506xz => kmk_size)); intro D' h' F' N' l1; (try (k_dflt (have nd' := nd_cons l1 (by assumption)))); (try clear l1); (try k_sweep))
  k_with "newList" => (k_here; k_dflt (refine' newList_K ?zz507xk1 ?zz507xk2 ?_; (case zz507xk1 => k_asm); (case zz507xk2 => k_asm); k_whole); intro l' h' F' N' l1; (try (k_dflt (have nd' := nd_cons l1 (by assumption)))); (try clear l1); (try k_sweep))
  k_with "eval Dict" => (k_here; kdn_look; k_dflt (refine' kdn_str ?zz508xq ?zz508xF ?zz508xN ?zz508xb ?zz508xa ?zz508xl ?zz508xe ?zz508xn ?_; (case zz508xq => rfl); (case zz508xF => k_asm); (case zz508xN => k_asm); (case zz508xb => exact Top.nolimit (by k_asm)); (case zz508xa => rfl); (case zz508xl => rfl); (case zz508xe => exact List.cons_ne_nil _ _); (case zz508xn => exact Nat.le_of_ble_eq_true rfl)); intro d' h' o' F' N' l1 lo' hd'; (try (k_dflt (have nd' := nd_cons l1 (by assumption)))); clear l1)
  k_with "eval Dict nil nil" => (k_here; k_dflt (refine' newDict_K ?zz509xk1 ?zz509xk2 (TopRead.nolimit (by k_asm)) ?_; (case zz509xk1 => k_asm); (case zz509xk2 => k_asm); k_whole); intro d' h' o' F' N' l1 lo' hs' fs' hi' fi'; (try (k_dflt (have nd' := nd_cons l1 (by assumption)))); clear l1; (try k_sweep))
  trivial




theorem scope_c {w : World} {mean : ExcName → Option Value} {mg mb : Str → Option Value}
    {dp un : Nat} {gd : Option (List Code)} {cn : Str} {cs : Scope} {a : Addr} {ccd : Value} {cl : List (Str × Addr)} {outer : List Env} {A₀ : Around} {base h₀ : Heap} {L : Addr} {m : Str → Option Value} {news : List (Addr × Obj)} {s : Shared}
    {Q E : Value → Shared → Prop} {x y z : Addr}
    (B : Below A₀ base outer h₀) (F : Fr h₀ L s.heap m) (KX : (Mine.K w.params).In h₀) (T : Top Mine.q0 (looseW Mine.q0 [Str.ofString "Limits"]) mean mg mb h₀) (hk : cs.kind = .function) (N : News h₀ L s.heap news) (nd : (news.map Prod.fst).Nodup) (hd : dp + 10 < recursionLimit) (hu : un + 500 < cLine)
    (hret : ∀ r dr od tl h' tks, Fr h₀ L h' m → News h₀ L h' ((r, instObj 228 dr) :: (dr, od) :: news) → (r :: dr :: news.map Prod.fst).Nodup → Attrs 16 od (at_ [("line", .int 1 tl)]) → Q (.ref r) { s with heap := h', toks := tks }) :
    wpAny (model PySem.Challenge.rw_rg0009_01.row.prog w) (ktrTop dp un gd cn cs L a ccd cl outer) (call (.ref 228) [.ref x, .ref y, .none, .ref z]) Q E s := by
  (try w_top off); revert KX; k_fill; intro KX
  k_steps
  all_goals exact hret _ _ _ _ _ _ (by k_asm) (by ktr_rel) (nd_spx (by assumption) (by simp only [List.map_cons]; repeat (first | exact SubP.refl | exact SubP.nil | (apply SubP.cons; focus (repeat (first | exact PullA.head | apply PullA.tail))) | apply SubP.drop))) (at_mkN (by k_asm) (by k_mem) (by assumption) (by decide) (by repeat' (first | exact List.forall_mem_nil _ | refine List.forall_mem_cons.mpr ⟨rfl, ?_⟩)))

end Mine
end
section
open PySem PySem.W PyProof.Rows
namespace Mine
theorem ln37 : True := by
  k_with_none
  k_with "ENTER" => (first | (refine' code_def ?zz525xk1 ?zz525xk2 ?zz525xk3 ?zz525xk4 ?zz525xk5 ?zz525xkA ?zz525xkF ?zz525xkK ?zz525xk6 ?zz525xk7 ?zz525xk8 ?zz525xk9 ?zz525xkB ?_ ?zz525xc2 ?zz525xc3 ?zz525xc4 ?zz525xc5; (case zz525xkA => exact rfl); (case zz525xkF => exact rfl); (case zz525xkK => first | exact rfl | assumption); (case zz525xk1 => k_asm); (case zz525xk2 => k_asm); (case zz525xk3 => k_asm); (case zz525xk4 => k_asm); (case zz525xk5 => k_asm); (case zz525xk6 => k_is); (case zz525xk7 => k_is); (case zz525xk8 => ktr_room); (case zz525xk9 => first | exact BindsTo.of_eq (binds := []) rfl | exact BindsTo.of_eq (binds := [(_, _)]) rfl | exact BindsTo.of_eq (binds := [(_, _), (_, _)]) rfl | exact BindsTo.of_eq (binds := [(_, _), (_, _), (_, _)]) rfl | exact BindsTo.of_eq (binds := [(_, _), (_, _), (_, _), (_, _)]) rfl | exact BindsTo.of_eq (binds := [(_, _), (_, _), (_, _), (_, _), (_, _)]) rfl | exact BindsTo.of_eq (binds := [(_, _), (_, _), (_, _), (_, _), (_, _), (_, _)]) rfl | exact BindsTo.of_eq (binds := [(_, _), (_, _), (_, _), (_, _), (_, _), (_, _), (_, _)]) rfl | exact BindsTo.of_eq (binds := [(_, _), (_, _), (_, _), (_, _), (_, _), (_, _), (_, _), (_, _)]) rfl | exact BindsTo.of_eq (binds := [(_, _), (_, _), (_, _), (_, _), (_, _), (_, _), (_, _), (_, _), (_, _)]) rfl | exact BindsTo.of_eq (binds := [(_, _), (_, _), (_, _), (_, _), (_, _), (_, _), (_, _), (_, _), (_, _), (_, _)]) rfl | exact binds_K (by k_in) rfl (by k_is) rfl rfl rfl); (case zz525xc5 => decide); (case zz525xkB => exact locs rfl); (case zz525xc2 => exact rfl); (case zz525xc3 => exact rfl); (case zz525xc4 => exact rfl); k_whole; intro g' L' h' FG' F' N' B' X' T'; (try dsimp only); (try k_fold)) | (refine' code_defC ?zz525xk1 ?zz525xk2 ?zz525xk3 ?zz525xk4 ?zz525xk5 ?zz525xkA ?zz525xkF ?zz525xkK ?zz525xk6 ?zz525xk7 ?zz525xk8 ?zz525xk9 ?zz525xkB ?zz525xkD ?_ ?zz525xc2 ?zz525xc3 ?zz525xc4; (case zz525xkA => exact rfl); (case zz525xkF => exact rfl); (case zz525xkK => first | exact rfl | assumption); (case zz525xk1 => k_asm); (case zz525xk2 => k_asm); (case zz525xk3 => k_asm); (case zz525xk4 => k_asm); (case zz525xk5 => k_asm); (case zz525xk6 => k_is); (case zz525xk7 => k_is); (case zz525xk8 => ktr_room); (case zz525xk9 => first | exact BindsTo.of_eq (binds := []) rfl | exact BindsTo.of_eq (binds := [(_, _)]) rfl | exact BindsTo.of_eq (binds := [(_, _), (_, _)]) rfl | exact BindsTo.of_eq (binds := [(_, _), (_, _), (_, _)]) rfl | exact BindsTo.of_eq (binds := [(_, _), (_, _), (_, _), (_, _)]) rfl | exact BindsTo.of_eq (binds := [(_, _), (_, _), (_, _), (_, _), (_, _)]) rfl | exact BindsTo.of_eq (binds := [(_, _), (_, _), (_, _), (_, _), (_, _), (_, _)]) rfl | exact BindsTo.of_eq (binds := [(_, _), (_, _), (_, _), (_, _), (_, _), (_, _), (_, _)]) rfl | exact BindsTo.of_eq (binds := [(_, _), (_, _), (_, _), (_, _), (_, _), (_, _), (_, _), (_, _)]) rfl | exact BindsTo.of_eq (binds := [(_, _), (_, _), (_, _), (_, _), (_, _), (_, _), (_, _), (_, _), (_, _)]) rfl | exact BindsTo.of_eq (binds := [(_, _), (_, _), (_, _), (_, _), (_, _), (_, _), (_, _), (_, _), (_, _), (_, _)]) rfl | exact binds_K (by k_in) rfl (by k_is) rfl rfl rfl); (case zz525xkB => exact rfl); (case zz525xkD => decide +kernel); (case zz525xc2 => exact rfl); (case zz525xc3 => exact rfl); (case zz525xc4 => exact rfl); k_whole; intro g' L' h' tk' cells' FG' F' N' Y' B' X' T' l1; k_cells Y'; (try simp only [List.cons_append, List.nil_append] at N'); (try dsimp only); (try k_fold)))
  k_with "call ref" => (k_here; k_dflt (refine' mk_inst ?zz511xk1 ?zz511xk2 ?zz511xk3 ?zz511xk4 ?zz511xk5 ?zz511xk6 ?_; (case zz511xk1 => k_asm); (case zz511xk2 => k_asm); (case zz511xk3 => k_asm); (case zz511xk4 => k_is); (case zz511xk5 => k_is); (case zz511xk6 => k_is); k_whole; intro x' d' o' h' F' N' a' l1 l2; (have nd' := nd_cons2 l1 l2 (by assumption)); (try k_sweep); (k_extra "ENTER")))
  k_with "setAttr ref" => (k_here; k_dflt (refine' at_set ?zz512xk1 ?zz512xk2 ?zz512xk3 ?zz512xk4 ?zz512xk5 ?zz512xk6 ?zz512xk7 ?zz512xk8 ?zz512xk9 ?zz512xk10 ?zz512xk11 ?_; (case zz512xk1 => k_asm); (case zz512xk2 => k_asm); (case zz512xk3 => k_asm); (case zz512xk4 => k_mem); (case zz512xk5 => k_updF); (case zz512xk6 => assumption); (case zz512xk7 => k_is); (case zz512xk8 => k_is); (case zz512xk9 => k_is); (case zz512xk10 => k_is); (case zz512xk11 => exact Nat.le_of_ble_eq_true rfl); k_whole; intro h' o' F' N' a'; (try dsimp only at N' a' F'); (try k_sweep)))
  k_with "setAttr ref" => (k_here; k_dflt (refine' at_again ?zz513xk1 ?zz513xk2 ?zz513xk3 ?zz513xk4 ?zz513xk5 ?zz513xk6 ?zz513xk0 ?zz513xk7 ?zz513xk8 ?zz513xk9 ?zz513xk10 ?zz513xk11 ?_; (case zz513xk1 => k_asm); (case zz513xk2 => k_asm); (case zz513xk3 => k_asm); (case zz513xk4 => k_mem); (case zz513xk5 => k_updF); (case zz513xk6 => assumption); (case zz513xk0 => first | exact rfl | assumption); (case zz513xk7 => k_is); (case zz513xk8 => k_is); (case zz513xk9 => k_is); (case zz513xk10 => k_is); (case zz513xk11 => exact Nat.le_of_ble_eq_true rfl); k_whole; intro h' o' F' N' a'; (try dsimp only at N' a' F'); (try k_sweep)))
  k_with "getAttr ref" => (k_here; k_dflt (refine' at_get ?zz514xk1 ?zz514xk2 ?zz514xk3 ?zz514xk4 ?zz514xk5 ?zz514xk6 ?zz514xk7 ?zz514xk8 ?zz514xk9 ?zz514xk10 ?zz514xk11 ?zz514xk12 ?_; (case zz514xk1 => k_asm); (case zz514xk2 => k_asm); (case zz514xk3 => k_asm); (case zz514xk4 => k_mem); (case zz514xk5 => k_mem); (case zz514xk6 => assumption); (case zz514xk7 => first | exact rfl | assumption); (case zz514xk8 => k_is); (case zz514xk9 => k_is); (case zz514xk10 => k_is); (case zz514xk11 => k_is); (case zz514xk12 => k_handed); k_whole))
  k_with "call type:list" => (k_here; (with_reducible show wpAny _ _ (call (Value.type _) [Value.ref _]) _ _ _); (with_unfolding_all refine' list_copyK ?zz515xk1 ?zz515xk2 ?zz515xk3 ?_ ?zz515xz; (case zz515xk1 => k_asm); (case zz515xk2 => k_asm); (case zz515xk3 => exact News.isList (d := none) (sl := #[]) (by k_asm) (by k_mem)); (case zz515xz => size_fits); k_whole); intro D' c' h' F' N' l1; (have nd' := nd_cons l1 (by assumption)); (try k_sweep))
  k_with "compareOp Eq ref ref" => (k_here; (with_reducible show wpAny _ _ (compareOp CmpOp.Eq (Value.ref _) (Value.ref _)) _ _ _); k_dflt (refine' ke_eq_ints (xs := []) (ys := []) ?zz516xa ?zz516xb .nil .nil ?zz516xu ?_; (case zz516xa => exact News.isList (d := none) (sl := #[]) (items := #[]) (by k_asm) (by k_mem)); (case zz516xb => exact News.isList (d := none) (sl := #[]) (items := #[]) (by k_asm) (by k_mem)); (case zz516xu => ktr_units); k_whole))
  k_with "getMethod ref" => (k_here; k_dflt (first | ((with_reducible show wpAny _ _ (getMethod (Value.ref _) (Str.ofString "get") _) _ _ _); refine' dic_method (knd := PySem.strKind _ _) PySem.F.slot_dict_get PySem.F.type_dict_get ?zz517xa ?zz517xb ?zz517xc ?_; (case zz517xa => k_asm); (case zz517xb => k_mem); (case zz517xc => assumption); k_whole) | ((with_reducible show wpAny _ _ (getMethod (Value.ref _) (Str.ofString "get") _) _ _ _); refine' dic_method (knd := PySem.intKind _ _) PySem.F.slot_dict_get PySem.F.type_dict_get ?zz517xa ?zz517xb ?zz517xc ?_; (case zz517xa => k_asm); (case zz517xb => k_mem); (case zz517xc => assumption); k_whole) | ((with_reducible show wpAny _ _ (getMethod (Value.ref _) (Str.ofString "setdefault") _) _ _ _); refine' dic_method (knd := PySem.strKind _ _) PySem.F.slot_dict_setdefault PySem.F.type_dict_setdefault ?zz517xa ?zz517xb ?zz517xc ?_; (case zz517xa => k_asm); (case zz517xb => k_mem); (case zz517xc => assumption); k_whole) | ((with_reducible show wpAny _ _ (getMethod (Value.ref _) (Str.ofString "setdefault") _) _ _ _); refine' dic_method (knd := PySem.intKind _ _) PySem.F.slot_dict_setdefault PySem.F.type_dict_setdefault ?zz517xa ?zz517xb ?zz517xc ?_; (case zz517xa => k_asm); (case zz517xb => k_mem); (case zz517xc => assumption); k_whole)))
  k_with "call builtin:dict.get" => (k_here; k_dflt (first
  | (refine' dic_get2 (knd := PySem.strKind _ _) ?zz518xa ?zz518xb ?zz518xc ?zz518xd (strKind_is _ _ _ _) ?_; (case zz518xa => k_asm); (case zz518xb => k_mem); (case zz518xc => assumption); (case zz518xd => assumption); k_whole)
  | (refine' dic_get1 (knd := PySem.intKind _ _) ?zz518xa ?zz518xb ?zz518xc ?zz518xd (intKind_is _ _ _ _) ?_; (case zz518xa => k_asm); (case zz518xb => k_mem); (case zz518xc => assumption); (case zz518xd => assumption); k_whole)); (try simp only [Option.getD_none, Option.getD_some, *]))
  k_with "call builtin:dict.setdefault" => (k_here; k_dflt (first
  | (refine' dic_default (knd := PySem.strKind _ _) ?zz519xa ?zz519xb ?zz519xc ?zz519xd ?zz519xe (strKind_is _ _ _ _) ?zz519xf ?zz519xg ?_; (case zz519xa => k_asm); (case zz519xb => k_asm); (case zz519xc => k_updF); (case zz519xd => assumption); (case zz519xe => assumption); (case zz519xf => omega); (case zz519xg => assumption); k_whole)
  | (refine' dic_default (knd := PySem.intKind _ _) ?zz519xa ?zz519xb ?zz519xc ?zz519xd ?zz519xe (intKind_is _ _ _ _) ?zz519xf ?zz519xg ?_; (case zz519xa => k_asm); (case zz519xb => k_asm); (case zz519xc => k_updF); (case zz519xd => assumption); (case zz519xe => assumption); (case zz519xf => omega); (case zz519xg => assumption); k_whole)); intro h' o' F' N' dc'; (try dsimp only at N' dc' F'); (try k_sweep))
  k_with "setItem ref str" => (k_here; k_dflt (refine' dic_set (knd := PySem.strKind _ _) ?zz520xa ?zz520xb ?zz520xc ?zz520xd (strKind_is _ _ _ _) ?zz520xf ?_; (case zz520xa => k_asm); (case zz520xb => k_asm); (case zz520xc => k_updF); (case zz520xd => assumption); (case zz520xf => omega); k_whole); intro h' o' F' N' dc'; (try dsimp only at N' dc' F'); (try k_sweep))
  k_with "newTuple" => (k_here; k_dflt (refine' kup_newTuple ?zz521xF ?zz521xN ?_ ?zz521xz; (case zz521xF => k_asm); (case zz521xN => k_asm); (case zz521xz => kmk_size)); intro D' h' F' N' l1; (try (k_dflt (have nd' := nd_cons l1 (by assumption)))); (try clear l1); (try k_sweep))
  k_with "newList" => (k_here; k_dflt (refine' newList_K ?zz522xk1 ?zz522xk2 ?_; (case zz522xk1 => k_asm); (case zz522xk2 => k_asm); k_whole); intro l' h' F' N' l1; (try (k_dflt (have nd' := nd_cons l1 (by assumption)))); (try clear l1); (try k_sweep))
  k_with "eval Dict" => (k_here; kdn_look; k_dflt (refine' kdn_str ?zz523xq ?zz523xF ?zz523xN ?zz523xb ?zz523xa ?zz523xl ?zz523xe ?zz523xn ?_; (case zz523xq => rfl); (case zz523xF => k_asm); (case zz523xN => k_asm); (case zz523xb => exact Top.nolimit (by k_asm)); (case zz523xa => rfl); (case zz523xl => rfl); (case zz523xe => exact List.cons_ne_nil _ _); (case zz523xn => exact Nat.le_of_ble_eq_true rfl)); intro d' h' o' F' N' l1 lo' hd'; (try (k_dflt (have nd' := nd_cons l1 (by assumption)))); clear l1)
  k_with "eval Dict nil nil" => (k_here; k_dflt (refine' newDict_K ?zz524xk1 ?zz524xk2 (TopRead.nolimit (by k_asm)) ?_; (case zz524xk1 => k_asm); (case zz524xk2 => k_asm); k_whole); intro d' h' o' F' N' l1 lo' hs' fs' hi' fi'; (try (k_dflt (have nd' := nd_cons l1 (by assumption)))); clear l1; (try k_sweep))
  trivial




theorem limits_c {w : World} {mean : ExcName → Option Value} {mg mb : Str → Option Value}
    {dp un : Nat} {gd : Option (List Code)} {cn : Str} {cs : Scope} {a : Addr} {ccd : Value} {cl : List (Str × Addr)} {outer : List Env} {A₀ : Around} {base h₀ : Heap} {L : Addr} {m : Str → Option Value} {news : List (Addr × Obj)} {s : Shared}
    {Q E : Value → Shared → Prop}
    (B : Below A₀ base outer h₀) (F : Fr h₀ L s.heap m) (KX : (Mine.K w.params).In h₀) (T : Top Mine.q0 (looseW Mine.q0 [Str.ofString "Limits"]) mean mg mb h₀) (hk : cs.kind = .function) (N : News h₀ L s.heap news) (nd : (news.map Prod.fst).Nodup) (hd : dp + 10 < recursionLimit) (hu : un + 500 < cLine)
    (hret : ∀ r dr od h' tks, Fr h₀ L h' m → News h₀ L h' ((r, instObj 250 dr) :: (dr, od) :: news) → (r :: dr :: news.map Prod.fst).Nodup → Q (.ref r) { s with heap := h', toks := tks }) :
    wpAny (model PySem.Challenge.rw_rg0009_01.row.prog w) (ktrTop dp un gd cn cs L a ccd cl outer) (call (.ref 250) []) Q E s := by
  (try w_top off); revert KX; k_fill; intro KX
  k_steps
  all_goals exact hret _ _ _ _ _ (by k_asm) (by ktr_rel) (by assumption)

end Mine
end
section
open PySem PySem.W PyProof.Rows
namespace Mine
theorem ln1 : True := by
  k_with_none
  k_with "ENTER" => (first | (refine' code_def ?zz24xk1 ?zz24xk2 ?zz24xk3 ?zz24xk4 ?zz24xk5 ?zz24xkA ?zz24xkF ?zz24xkK ?zz24xk6 ?zz24xk7 ?zz24xk8 ?zz24xk9 ?zz24xkB ?_ ?zz24xc2 ?zz24xc3 ?zz24xc4 ?zz24xc5; (case zz24xkA => exact rfl); (case zz24xkF => exact rfl); (case zz24xkK => first | exact rfl | assumption); (case zz24xk1 => k_asm); (case zz24xk2 => k_asm); (case zz24xk3 => k_asm); (case zz24xk4 => k_asm); (case zz24xk5 => k_asm); (case zz24xk6 => k_is); (case zz24xk7 => k_is); (case zz24xk8 => ktr_room); (case zz24xk9 => first | exact BindsTo.of_eq (binds := []) rfl | exact BindsTo.of_eq (binds := [(_, _)]) rfl | exact BindsTo.of_eq (binds := [(_, _), (_, _)]) rfl | exact BindsTo.of_eq (binds := [(_, _), (_, _), (_, _)]) rfl | exact BindsTo.of_eq (binds := [(_, _), (_, _), (_, _), (_, _)]) rfl | exact BindsTo.of_eq (binds := [(_, _), (_, _), (_, _), (_, _), (_, _)]) rfl | exact BindsTo.of_eq (binds := [(_, _), (_, _), (_, _), (_, _), (_, _), (_, _)]) rfl | exact BindsTo.of_eq (binds := [(_, _), (_, _), (_, _), (_, _), (_, _), (_, _), (_, _)]) rfl | exact BindsTo.of_eq (binds := [(_, _), (_, _), (_, _), (_, _), (_, _), (_, _), (_, _), (_, _)]) rfl | exact BindsTo.of_eq (binds := [(_, _), (_, _), (_, _), (_, _), (_, _), (_, _), (_, _), (_, _), (_, _)]) rfl | exact BindsTo.of_eq (binds := [(_, _), (_, _), (_, _), (_, _), (_, _), (_, _), (_, _), (_, _), (_, _), (_, _)]) rfl | exact binds_K (by k_in) rfl (by k_is) rfl rfl rfl); (case zz24xc5 => decide); (case zz24xkB => exact locs rfl); (case zz24xc2 => exact rfl); (case zz24xc3 => exact rfl); (case zz24xc4 => exact rfl); k_whole; intro g' L' h' FG' F' N' B' X' T'; (try dsimp only); (try k_fold)) | (refine' code_defC ?zz24xk1 ?zz24xk2 ?zz24xk3 ?zz24xk4 ?zz24xk5 ?zz24xkA ?zz24xkF ?zz24xkK ?zz24xk6 ?zz24xk7 ?zz24xk8 ?zz24xk9 ?zz24xkB ?zz24xkD ?_ ?zz24xc2 ?zz24xc3 ?zz24xc4; (case zz24xkA => exact rfl); (case zz24xkF => exact rfl); (case zz24xkK => first | exact rfl | assumption); (case zz24xk1 => k_asm); (case zz24xk2 => k_asm); (case zz24xk3 => k_asm); (case zz24xk4 => k_asm); (case zz24xk5 => k_asm); (case zz24xk6 => k_is); (case zz24xk7 => k_is); (case zz24xk8 => ktr_room); (case zz24xk9 => first | exact BindsTo.of_eq (binds := []) rfl | exact BindsTo.of_eq (binds := [(_, _)]) rfl | exact BindsTo.of_eq (binds := [(_, _), (_, _)]) rfl | exact BindsTo.of_eq (binds := [(_, _), (_, _), (_, _)]) rfl | exact BindsTo.of_eq (binds := [(_, _), (_, _), (_, _), (_, _)]) rfl | exact BindsTo.of_eq (binds := [(_, _), (_, _), (_, _), (_, _), (_, _)]) rfl | exact BindsTo.of_eq (binds := [(_, _), (_, _), (_, _), (_, _), (_, _), (_, _)]) rfl | exact BindsTo.of_eq (binds := [(_, _), (_, _), (_, _), (_, _), (_, _), (_, _), (_, _)]) rfl | exact BindsTo.of_eq (binds := [(_, _), (_, _), (_, _), (_, _), (_, _), (_, _), (_, _), (_, _)]) rfl | exact BindsTo.of_eq (binds := [(_, _), (_, _), (_, _), (_, _), (_, _), (_, _), (_, _), (_, _), (_, _)]) rfl | exact BindsTo.of_eq (binds := [(_, _), (_, _), (_, _), (_, _), (_, _), (_, _), (_, _), (_, _), (_, _), (_, _)]) rfl | exact binds_K (by k_in) rfl (by k_is) rfl rfl rfl); (case zz24xkB => exact rfl); (case zz24xkD => decide +kernel); (case zz24xc2 => exact rfl); (case zz24xc3 => exact rfl); (case zz24xc4 => exact rfl); k_whole; intro g' L' h' tk' cells' FG' F' N' Y' B' X' T' l1; k_cells Y'; (try simp only [List.cons_append, List.nil_append] at N'); (try dsimp only); (try k_fold)))
  k_with "call ref" => (k_here; k_dflt (refine' mk_inst ?zz1xk1 ?zz1xk2 ?zz1xk3 ?zz1xk4 ?zz1xk5 ?zz1xk6 ?_; (case zz1xk1 => k_asm); (case zz1xk2 => k_asm); (case zz1xk3 => k_asm); (case zz1xk4 => k_is); (case zz1xk5 => k_is); (case zz1xk6 => k_is); k_whole; intro x' d' o' h' F' N' a' l1 l2; (have nd' := nd_cons2 l1 l2 (by assumption)); (try k_sweep); (k_extra "ENTER")))
  k_with "setAttr ref" => (k_here; k_dflt (refine' at_set ?zz2xk1 ?zz2xk2 ?zz2xk3 ?zz2xk4 ?zz2xk5 ?zz2xk6 ?zz2xk7 ?zz2xk8 ?zz2xk9 ?zz2xk10 ?zz2xk11 ?_; (case zz2xk1 => k_asm); (case zz2xk2 => k_asm); (case zz2xk3 => k_asm); (case zz2xk4 => k_mem); (case zz2xk5 => k_updF); (case zz2xk6 => assumption); (case zz2xk7 => k_is); (case zz2xk8 => k_is); (case zz2xk9 => k_is); (case zz2xk10 => k_is); (case zz2xk11 => exact Nat.le_of_ble_eq_true rfl); k_whole; intro h' o' F' N' a'; (try dsimp only at N' a' F'); (try k_sweep)))
  k_with "setAttr ref" => (k_here; k_dflt (refine' at_again ?zz3xk1 ?zz3xk2 ?zz3xk3 ?zz3xk4 ?zz3xk5 ?zz3xk6 ?zz3xk0 ?zz3xk7 ?zz3xk8 ?zz3xk9 ?zz3xk10 ?zz3xk11 ?_; (case zz3xk1 => k_asm); (case zz3xk2 => k_asm); (case zz3xk3 => k_asm); (case zz3xk4 => k_mem); (case zz3xk5 => k_updF); (case zz3xk6 => assumption); (case zz3xk0 => first | exact rfl | assumption); (case zz3xk7 => k_is); (case zz3xk8 => k_is); (case zz3xk9 => k_is); (case zz3xk10 => k_is); (case zz3xk11 => exact Nat.le_of_ble_eq_true rfl); k_whole; intro h' o' F' N' a'; (try dsimp only at N' a' F'); (try k_sweep)))
  k_with "getAttr ref" => (k_here; k_dflt (refine' at_get ?zz4xk1 ?zz4xk2 ?zz4xk3 ?zz4xk4 ?zz4xk5 ?zz4xk6 ?zz4xk7 ?zz4xk8 ?zz4xk9 ?zz4xk10 ?zz4xk11 ?zz4xk12 ?_; (case zz4xk1 => k_asm); (case zz4xk2 => k_asm); (case zz4xk3 => k_asm); (case zz4xk4 => k_mem); (case zz4xk5 => k_mem); (case zz4xk6 => assumption); (case zz4xk7 => first | exact rfl | assumption); (case zz4xk8 => k_is); (case zz4xk9 => k_is); (case zz4xk10 => k_is); (case zz4xk11 => k_is); (case zz4xk12 => k_handed); k_whole))
  k_with "call type:list" => (k_here; (with_reducible show wpAny _ _ (call (Value.type _) [Value.ref _]) _ _ _); (with_unfolding_all refine' list_copyK ?zz5xk1 ?zz5xk2 ?zz5xk3 ?_ ?zz5xz; (case zz5xk1 => k_asm); (case zz5xk2 => k_asm); (case zz5xk3 => exact News.isList (d := none) (sl := #[]) (by k_asm) (by k_mem)); (case zz5xz => size_fits); k_whole); intro D' c' h' F' N' l1; (have nd' := nd_cons l1 (by assumption)); (try k_sweep))
  k_with "compareOp Eq ref ref" => (k_here; (with_reducible show wpAny _ _ (compareOp CmpOp.Eq (Value.ref _) (Value.ref _)) _ _ _); k_dflt (refine' ke_eq_ints (xs := []) (ys := []) ?zz6xa ?zz6xb .nil .nil ?zz6xu ?_; (case zz6xa => exact News.isList (d := none) (sl := #[]) (items := #[]) (by k_asm) (by k_mem)); (case zz6xb => exact News.isList (d := none) (sl := #[]) (items := #[]) (by k_asm) (by k_mem)); (case zz6xu => ktr_units); k_whole))
  k_with "getMethod ref" => (k_here; k_dflt (first | ((with_reducible show wpAny _ _ (getMethod (Value.ref _) (Str.ofString "get") _) _ _ _); refine' dic_method (knd := PySem.strKind _ _) PySem.F.slot_dict_get PySem.F.type_dict_get ?zz7xa ?zz7xb ?zz7xc ?_; (case zz7xa => k_asm); (case zz7xb => k_mem); (case zz7xc => assumption); k_whole) | ((with_reducible show wpAny _ _ (getMethod (Value.ref _) (Str.ofString "get") _) _ _ _); refine' dic_method (knd := PySem.intKind _ _) PySem.F.slot_dict_get PySem.F.type_dict_get ?zz7xa ?zz7xb ?zz7xc ?_; (case zz7xa => k_asm); (case zz7xb => k_mem); (case zz7xc => assumption); k_whole) | ((with_reducible show wpAny _ _ (getMethod (Value.ref _) (Str.ofString "setdefault") _) _ _ _); refine' dic_method (knd := PySem.strKind _ _) PySem.F.slot_dict_setdefault PySem.F.type_dict_setdefault ?zz7xa ?zz7xb ?zz7xc ?_; (case zz7xa => k_asm); (case zz7xb => k_mem); (case zz7xc => assumption); k_whole) | ((with_reducible show wpAny _ _ (getMethod (Value.ref _) (Str.ofString "setdefault") _) _ _ _); refine' dic_method (knd := PySem.intKind _ _) PySem.F.slot_dict_setdefault PySem.F.type_dict_setdefault ?zz7xa ?zz7xb ?zz7xc ?_; (case zz7xa => k_asm); (case zz7xb => k_mem); (case zz7xc => assumption); k_whole)))
  k_with "call builtin:dict.get" => (k_here; k_dflt (first
  | (refine' dic_get2 (knd := PySem.strKind _ _) ?zz8xa ?zz8xb ?zz8xc ?zz8xd (strKind_is _ _ _ _) ?_; (case zz8xa => k_asm); (case zz8xb => k_mem); (case zz8xc => assumption); (case zz8xd => assumption); k_whole)
  | (refine' dic_get1 (knd := PySem.intKind _ _) ?zz8xa ?zz8xb ?zz8xc ?zz8xd (intKind_is _ _ _ _) ?_; (case zz8xa => k_asm); (case zz8xb => k_mem); (case zz8xc => assumption); (case zz8xd => assumption); k_whole)); (try simp only [Option.getD_none, Option.getD_some, *]))
  k_with "call builtin:dict.setdefault" => (k_here; k_dflt (first
  | (refine' dic_default (knd := PySem.strKind _ _) ?zz9xa ?zz9xb ?zz9xc ?zz9xd ?zz9xe (strKind_is _ _ _ _) ?zz9xf ?zz9xg ?_; (case zz9xa => k_asm); (case zz9xb => k_asm); (case zz9xc => k_updF); (case zz9xd => assumption); (case zz9xe => assumption); (case zz9xf => omega); (case zz9xg => assumption); k_whole)
  | (refine' dic_default (knd := PySem.intKind _ _) ?zz9xa ?zz9xb ?zz9xc ?zz9xd ?zz9xe (intKind_is _ _ _ _) ?zz9xf ?zz9xg ?_; (case zz9xa => k_asm); (case zz9xb => k_asm); (case zz9xc => k_updF); (case zz9xd => assumption); (case zz9xe => assumption); (case zz9xf => omega); (case zz9xg => assumption); k_whole)); intro h' o' F' N' dc'; (try dsimp only at N' dc' F'); (try k_sweep))
  k_with "setItem ref str" => (k_here; k_dflt (refine' dic_set (knd := PySem.strKind _ _) ?zz10xa ?zz10xb ?zz10xc ?zz10xd (strKind_is _ _ _ _) ?zz10xf ?_; (case zz10xa => k_asm); (case zz10xb => k_asm); (case zz10xc => k_updF); (case zz10xd => assumption); (case zz10xf => omega); k_whole); intro h' o' F' N' dc'; (try dsimp only at N' dc' F'); (try k_sweep))
  k_with "newTuple" => (k_here; k_dflt (refine' kup_newTuple ?zz11xF ?zz11xN ?_ ?zz11xz; (case zz11xF => k_asm); (case zz11xN => k_asm); (case zz11xz => kmk_size)); intro D' h' F' N' l1; (try (k_dflt (have nd' := nd_cons l1 (by assumption)))); (try clear l1); (try k_sweep))
  k_with "newList" => (k_here; k_dflt (refine' newList_K ?zz12xk1 ?zz12xk2 ?_; (case zz12xk1 => k_asm); (case zz12xk2 => k_asm); k_whole); intro l' h' F' N' l1; (try (k_dflt (have nd' := nd_cons l1 (by assumption)))); (try clear l1); (try k_sweep))
  k_with "eval Dict" => (k_here; kdn_look; k_dflt (refine' kdn_str ?zz13xq ?zz13xF ?zz13xN ?zz13xb ?zz13xa ?zz13xl ?zz13xe ?zz13xn ?_; (case zz13xq => rfl); (case zz13xF => k_asm); (case zz13xN => k_asm); (case zz13xb => exact Top.nolimit (by k_asm)); (case zz13xa => rfl); (case zz13xl => rfl); (case zz13xe => exact List.cons_ne_nil _ _); (case zz13xn => exact Nat.le_of_ble_eq_true rfl)); intro d' h' o' F' N' l1 lo' hd'; (try (k_dflt (have nd' := nd_cons l1 (by assumption)))); clear l1)
  k_with "eval Dict nil nil" => (k_here; k_dflt (refine' newDict_K ?zz14xk1 ?zz14xk2 (TopRead.nolimit (by k_asm)) ?_; (case zz14xk1 => k_asm); (case zz14xk2 => k_asm); k_whole); intro d' h' o' F' N' l1 lo' hs' fs' hi' fi'; (try (k_dflt (have nd' := nd_cons l1 (by assumption)))); clear l1; (try k_sweep))
  k_with "exec Raise some none" => (k_here; k_dflt (refine' raise_own ?zz15xhh ?_; (case zz15xhh => exact rfl); k_whole))
  k_with "Throws" => (refine' Throws.intro (B := "Exception") ?zz16xF ?zz16xX ?zz16xN ?zz16xm ?zz16xc ?zz16xu ?zz16xv ?_; (case zz16xF => k_asm); (case zz16xX => k_asm); (case zz16xN => k_asm); (case zz16xm => k_mem); (case zz16xc => k_is); (case zz16xu => exact ⟨by decide, by decide, by decide, by decide⟩); (case zz16xv => first | rfl | assumption); (try dsimp only))
  k_with "leaving ref" => (k_here; first
  | (refine' leave_first ?zz17xk1 ?zz17xk2 ?zz17xk3 ?zz17xk4 ?zz17xk5 ?zz17xk6 ?_; (case zz17xk2 => assumption); (case zz17xk1 => assumption); (case zz17xk3 => k_asm); (case zz17xk4 => k_mem); (case zz17xk5 => assumption); (case zz17xk6 => assumption); k_whole; intro h' R' U'; (try dsimp only at R' U' ⊢))
  | (refine' leave_on ?zz17xk1 ?zz17xk2 ?zz17xk3 ?zz17xk4 ?_; (case zz17xk3 => assumption); (case zz17xk1 => assumption); (case zz17xk4 => assumption); (case zz17xk2 => assumption); k_whole; intro h' R' U'; (try dsimp only at R' U' ⊢)))
  k_with "compareOp NotEq ref ref" => (k_here; (with_reducible show wpAny _ _ (compareOp CmpOp.NotEq (Value.ref _) (Value.ref _)) _ _ _); k_dflt (refine ne_dataH (by ke_read) (by ke_read) (by ke_shaped) (by ke_shaped) (by ktr_units) ?_); ke_norm)
  k_with "call ref" => (k_here; (with_reducible show wpAny _ _ (call (Value.ref 124) _ _) _ _ _); refine Stop.on ?_)
  k_with "call ref" => (k_here; (with_reducible show wpAny _ _ (call (Value.ref 250) _ _) _ _ _); refine Stop.on ?_)
  k_with "call ref" => (k_here; (with_reducible show wpAny _ _ (call (Value.ref 228) _ _) _ _ _); refine Stop.on ?_)
  k_with "call ref" => (k_here; (with_reducible show wpAny _ _ (call (Value.ref 329) _ _) _ _ _); refine Stop.on ?_)
  k_with "call ref" => (k_here; (with_reducible show wpAny _ _ (call (Value.ref 204) _ _) _ _ _); refine Stop.on ?_)
  trivial



end Mine
open Mine in
theorem PySem.Challenge.cw_rg0009_01_holds : PySem.Challenge.rw_rg0009_01.Holds := by
  w_on
  o_law
  refine holds_open (q := Mine.q0) (loose := [Str.ofString "Limits"]) (Xt := Mine.Xt0) (XP := XL Mine.q0 []) (Yf := Hook.obs (kHook Mine.K Mine.addrs Mine.he0)) (Ya := Hook.val (kHook Mine.K Mine.addrs Mine.he0)) (YP := Hook.says (kHook Mine.K Mine.addrs Mine.he0)) (N := 5618) Mine.left0 (Hook.of (kHook Mine.K Mine.addrs Mine.he0)) (Hook.keeps (kHook Mine.K Mine.addrs Mine.he0)) (fun s e => xl_of s (Bool.and_eq_true_iff.mp e).1) XL.keeps (by rfl) (by rfl) (by rfl) (fun s e => recFacts_of (Bool.and_eq_true_iff.mp e).2) (by rfl) (by first | assumption | decide +kernel) (by decide +kernel) ⟨rfl, rfl, rfl, rfl, rfl, by decide +kernel⟩ ?hw ?hc
  case hw => w_witness2
  k_go0
  all_goals try k_fold
  k_steps
  refine Stop.off ?_
  rename News _ _ _ _ => N5
  rename IntsAre _ ([0] ++ _) => hI
  refine oreg_root (k := 0) (by k_asm) (by k_asm) (by k_asm) (by k_asm) (by exact rfl) (Mine.News.head1 N5) (nd_one _) (by ktr_room) (by ktr_units) ?_
  intro rr drr odrr na oa ca ta on oc ot co h1 tk1 rs F6 N6 nd6 cns loc hs lot ns lon
  k_sweep
  dsimp only
  k_steps
  refine Stop.off ?_
  refine limits_c (by k_asm) (by k_asm) (by k_asm) (by k_asm) (by exact rfl) (by k_asm) nd6 (by ktr_room) (by ktr_units) ?_
  intro li dli oli h2 tk2 F7 N7 nd7
  k_sweep
  dsimp only
  k_steps
  refine Stop.off ?_
  refine scope_c (by k_asm) (by k_asm) (by k_asm) (by k_asm) (by exact rfl) (by k_asm) (by assumption) (by ktr_room) (by ktr_units) ?_
  intro sc ds osc tsl h3 tk3 F8 N8 nd8 asc
  k_sweep
  dsimp only
  k_steps
  refine Stop.off ?_
  have hn41 := hI.length
  rename List.length (List.take 40 _) = _ => hC40
  have hC41 : (List.take 40 _).length ≤ 40 := hC40 ▸ Nat.min_le_left _ _
  refine fill0 (k := 0) (b := 1) (news := [(rr, instObj 113 drr), (sc, instObj 228 ds), (ds, osc)]) (lad_of hI) (by omega) (by omega) (by omega) (.head _) rs (.inl ⟨rfl, rfl, rfl⟩) (cns.le (by omega)) loc (hs.le2 (by omega) (by omega)) lot (ns.le (by omega) (fun _ _ => trivial)) lon (by omega) (by k_asm) (by k_asm) (by k_asm) (by k_asm) (by exact rfl) (by ktr_rel) (nd_spx nd8 (by simp only [List.map_cons]; repeat (first | exact SubP.refl | exact SubP.nil | (apply SubP.cons; focus (repeat (first | exact PullA.head | apply PullA.tail))) | apply SubP.drop))) (by ktr_room) (by ktr_units) ?_
  intro es ol7 odrr7 oc7 ot7 on7 c7 ext k7 b7 ft7 h4 tk4 F9 N9 nd9 q1 q2 hl7 rs7 q3 q4 cns7 hs7 hm7 hes7
  k_sweep
  dsimp only
  obtain ⟨vb, hvb⟩ : ∃ vb, es.all (·.2) = vb := ⟨_, rfl⟩
  rw [hvb]
  have nd10 := nd_mid (H := [_, _, _, _, _, _]) (E := ext) (M := [_, _, _]) (R := []) nd9
  simp only [List.cons_append, List.nil_append, List.append_nil] at nd10
  have mrr : (rr, instObj 113 drr) ∈ ext ++ [(rr, instObj 113 drr), (sc, instObj 228 ds), (ds, osc)] := List.mem_append_right _ (by k_mem)
  have msc : (sc, instObj 228 ds) ∈ ext ++ [(rr, instObj 113 drr), (sc, instObj 228 ds), (ds, osc)] := List.mem_append_right _ (by k_mem)
  have mds : (ds, osc) ∈ ext ++ [(rr, instObj 113 drr), (sc, instObj 228 ds), (ds, osc)] := List.mem_append_right _ (by k_mem)
  obtain ⟨tkrr, parr, Mr, tMr, nurr, tnurr, lvrr, tlvrr, ptrr, tptrr, arr, hM0, hM1⟩ := rs7
  obtain ⟨nt, dt, hnt, hfree⟩ := hs7
  have hreg : RegN _ 2 ((drr, odrr7) :: (oa, PySem.W.listOf (List.toArray (es.map fun p : Addr × Bool => Value.ref p.1)) c7) :: (rr, instObj 113 drr) :: ext) ft7 rr rr vb :=
    ⟨drr, odrr7, _, tkrr, parr, Mr, tMr, nurr, tnurr, lvrr, tlvrr, ptrr, tptrr, na, oa, ca, ta, c7, es, by k_mem, by k_mem, arr, by k_mem, fun p hp => (hes7 p hp).sub (fun q hq => .tail _ (.tail _ (.tail _ hq))) (fun _ _ h => h) (fun r b h => RegN.sub (fun q hq => .tail _ (.tail _ (.tail _ hq))) (fun _ _ h => h) h), hvb.symm⟩
  clear hes7
  k_steps
  refine Stop.off ?_
  rename News _ _ _ _ => N11
  refine bodies0 (news0 := (drr, odrr7) :: (oa, PySem.W.listOf (List.toArray (es.map fun p : Addr × Bool => Value.ref p.1)) c7) :: (rr, instObj 113 drr) :: ext) (news := (drr, odrr7) :: (ta, ot7) :: (oa, PySem.W.listOf (List.toArray (es.map fun p : Addr × Bool => Value.ref p.1)) c7) :: (rr, instObj 113 drr) :: (sc, instObj 228 ds) :: ext) (ds := ds) (osc := osc) hreg (by repeat' (first | exact List.forall_mem_nil _ | (refine List.forall_mem_cons.mpr ⟨by k_mem, ?_⟩) | (intro p hp; repeat (first | exact hp | exact List.mem_append_left _ hp | apply List.Mem.tail)))) (by repeat' (first | exact List.forall_mem_nil _ | (refine List.forall_mem_cons.mpr ⟨by k_mem, ?_⟩) | (intro p hp; repeat (first | exact hp | exact List.mem_append_left _ hp | apply List.Mem.tail)))) (by k_mem) asc rfl (by k_mem) (by k_mem) arr (by k_mem) dt lot (by k_asm) (by k_asm) (by k_asm) (by k_asm) (by exact rfl) N11 (nd_spx nd10 (by simp only [List.map_cons]; repeat (first | exact SubP.refl | exact SubP.nil | (apply SubP.cons; focus (repeat (first | exact PullA.head | apply PullA.tail))) | apply SubP.drop))) (by ktr_room) (by ktr_units) ?_ ?_
  · intro hb h5 tk5 F10 N10
    k_sweep
    subst hb
    dsimp only
    k_steps
    all_goals first | (k_end; kc_close)
  · intro hb e g h5 tk5 FG U R
    subst hb
    refine caughtM (C := 51) (by k_asm) FG U R (by k_asm) (by k_asm) (by k_is) (by k_is) (by decide) ?_
    intro h6 F12
    k_sweep
    dsimp only
    k_steps
    all_goals first | (k_end; kc_close)
end
