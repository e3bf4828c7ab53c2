import PyProof.Rows.All
import Wide.All
import OpenK.AllK
import Wide.FinOn
import PySem.Challenge.RW_xm0635_01
open PySem PySem.W PyProof.Rows
set_option Elab.async false
set_option maxRecDepth 100000
set_option maxHeartbeats 8000000
namespace Mine
open PySem PySem.W
/-- the program's own statements, and a def's parts -/
noncomputable def cells : List Stmt := PySem.Challenge.rw_xm0635_01.row.toRowW.prog.main.body
noncomputable def nth (l : List Stmt) (i : Nat) : Stmt := l.getD i (.Pass ⟨0, 0, 0, 0⟩)
noncomputable def within : Stmt → List Stmt
  | .ClassDef _ _ _ b .. => b
  | _ => []
noncomputable def fA : Stmt → Arguments
  | .FunctionDef _ a .. => a
  | _ => ⟨[], [], none, [], [], none, []⟩
noncomputable def fB : Stmt → List Stmt
  | .FunctionDef _ _ b .. => b
  | _ => []
noncomputable def fS : Stmt → Scope
  | .FunctionDef _ _ _ _ _ _ s .. => s
  | _ => { kind := .function, names := [], isGenerator := false, isCoroutine := false }
/-- the text as the walk sees it: all statements but the names of the files -/
noncomputable def vw : Program := { main := { body := [(by refine' (?f : ∀ b : Stmt, nth cells 1 = b → Stmt) _ ?h; (case h => conv => lhs; whnf); (case f => exact fun b _ => b)), (by refine' (?f : ∀ b : Stmt, nth cells 2 = b → Stmt) _ ?h; (case h => conv => lhs; whnf); (case f => exact fun b _ => b)), (by refine' (?f : ∀ b : Stmt, nth cells 4 = b → Stmt) _ ?h; (case h => conv => lhs; whnf); (case f => exact fun b _ => b)), (by refine' (?f : ∀ b : Stmt, nth cells 5 = b → Stmt) _ ?h; (case h => conv => lhs; whnf); (case f => exact fun b _ => b)), (by refine' (?f : ∀ b : Stmt, nth cells 6 = b → Stmt) _ ?h; (case h => conv => lhs; whnf); (case f => exact fun b _ => b)), (by refine' (?f : ∀ b : Stmt, nth cells 7 = b → Stmt) _ ?h; (case h => conv => lhs; whnf); (case f => exact fun b _ => b)), (by refine' (?f : ∀ b : Stmt, nth cells 8 = b → Stmt) _ ?h; (case h => conv => lhs; whnf); (case f => exact fun b _ => b)), (by refine' (?f : ∀ b : Stmt, nth cells 9 = b → Stmt) _ ?h; (case h => conv => lhs; whnf); (case f => exact fun b _ => b)), (by refine' (?f : ∀ b : Stmt, nth cells 10 = b → Stmt) _ ?h; (case h => conv => lhs; whnf); (case f => exact fun b _ => b)), (by refine' (?f : ∀ b : Stmt, nth cells 11 = b → Stmt) _ ?h; (case h => conv => lhs; whnf); (case f => exact fun b _ => b)), (by refine' (?f : ∀ b : Stmt, nth cells 13 = b → Stmt) _ ?h; (case h => conv => lhs; whnf); (case f => exact fun b _ => b)), (by refine' (?f : ∀ b : Stmt, nth cells 14 = b → Stmt) _ ?h; (case h => conv => lhs; whnf); (case f => exact fun b _ => b)), (by refine' (?f : ∀ b : Stmt, nth cells 15 = b → Stmt) _ ?h; (case h => conv => lhs; whnf); (case f => exact fun b _ => b)), (by refine' (?f : ∀ b : Stmt, nth cells 16 = b → Stmt) _ ?h; (case h => conv => lhs; whnf); (case f => exact fun b _ => b)), (by refine' (?f : ∀ b : Stmt, nth cells 17 = b → Stmt) _ ?h; (case h => conv => lhs; whnf); (case f => exact fun b _ => b)), (by refine' (?f : ∀ b : Stmt, nth cells 18 = b → Stmt) _ ?h; (case h => conv => lhs; whnf); (case f => exact fun b _ => b)), (by refine' (?f : ∀ b : Stmt, nth cells 19 = b → Stmt) _ ?h; (case h => conv => lhs; whnf); (case f => exact fun b _ => b)), (by refine' (?f : ∀ b : Stmt, nth cells 20 = b → Stmt) _ ?h; (case h => conv => lhs; whnf); (case f => exact fun b _ => b)), (by refine' (?f : ∀ b : Stmt, nth cells 21 = b → Stmt) _ ?h; (case h => conv => lhs; whnf); (case f => exact fun b _ => b)), (by refine' (?f : ∀ b : Stmt, nth cells 22 = b → Stmt) _ ?h; (case h => conv => lhs; whnf); (case f => exact fun b _ => b))], scope := PySem.Challenge.rw_xm0635_01.row.toRowW.prog.main.scope, futureAnnotations := PySem.Challenge.rw_xm0635_01.row.toRowW.prog.main.futureAnnotations, file := PySem.Challenge.rw_xm0635_01.row.toRowW.prog.main.file, more := PySem.Challenge.rw_xm0635_01.row.toRowW.prog.main.more }, modules := PySem.Challenge.rw_xm0635_01.row.toRowW.prog.modules, parses := PySem.Challenge.rw_xm0635_01.row.toRowW.prog.parses, absent := PySem.Challenge.rw_xm0635_01.row.toRowW.prog.absent, harvested := PySem.Challenge.rw_xm0635_01.row.toRowW.prog.harvested, given := PySem.Challenge.rw_xm0635_01.row.toRowW.prog.given }
/-- the objects that the top leaves; the proof within keeps the head's tactic from laying a twin of this long list beside it -/
noncomputable def kh : Params → Frag := fun P => (fun (_ : PySem.Str.ofString "__name__" = ⟨#[95, 95, 110, 97, 109, 101, 95, 95]⟩) => (nat_lit 2, { cls := PySem.Value.none, data := PySem.Data.dict #[{ hash := PySem.PyData.keyHash P (PySem.Str.ofString "type.__subclasses__.Exception.0"), key := PySem.Value.str (PySem.Str.ofString "type.__subclasses__.Exception.0") 214, val := PySem.Value.int 31 0 }, { hash := PySem.PyData.keyHash P (PySem.Str.ofString "type.__subclasses__.Exception.n"), key := PySem.Value.str (PySem.Str.ofString "type.__subclasses__.Exception.n") 215, val := PySem.Value.int 1 0 }] 2 }) ::
  (nat_lit 3, { cls := PySem.Value.type "dict", data := PySem.Data.dict #[{ hash := PySem.PyData.keyHash P (PySem.Str.ofString "__name__"), key := PySem.Value.str (PySem.Str.ofString "__name__") 165, val := PySem.Value.str (PySem.Str.ofString "law_xm0635_01") 332 }, { hash := PySem.PyData.keyHash P (PySem.Str.ofString "__doc__"), key := PySem.Value.str (PySem.Str.ofString "__doc__") 166, val := PySem.Value.none }, { hash := PySem.PyData.keyHash P (PySem.Str.ofString "__package__"), key := PySem.Value.str (PySem.Str.ofString "__package__") 167, val := PySem.Value.none }, { hash := PySem.PyData.keyHash P (PySem.Str.ofString "__loader__"), key := PySem.Value.str (PySem.Str.ofString "__loader__") 168, val := PySem.Value.builtin "__main__.__loader__#opaque" }, { hash := PySem.PyData.keyHash P (PySem.Str.ofString "__spec__"), key := PySem.Value.str (PySem.Str.ofString "__spec__") 169, val := PySem.Value.none }, { hash := PySem.PyData.keyHash P (PySem.Str.ofString "__annotations__"), key := PySem.Value.str (PySem.Str.ofString "__annotations__") 170, val := PySem.Value.ref 6 }, { hash := PySem.PyData.keyHash P (PySem.Str.ofString "__builtins__"), key := PySem.Value.str (PySem.Str.ofString "__builtins__") 171, val := PySem.Value.ref 4 }, { hash := PySem.PyData.keyHash P (PySem.Str.ofString "__file__"), key := PySem.Value.str (PySem.Str.ofString "__file__") 173, val := PySem.Value.str (PySem.Str.ofString "/claim/cut.py") 172 }, { hash := PySem.PyData.keyHash P (PySem.Str.ofString "__cached__"), key := PySem.Value.str (PySem.Str.ofString "__cached__") 174, val := PySem.Value.none }, { hash := PySem.PyData.keyHash P (PySem.Str.ofString "MarkupError"), key := PySem.Value.str (PySem.Str.ofString "MarkupError") 217, val := PySem.Value.ref 31 }, { hash := PySem.PyData.keyHash P (PySem.Str.ofString "SheetFault"), key := PySem.Value.str (PySem.Str.ofString "SheetFault") 233, val := PySem.Value.ref 44 }, { hash := PySem.PyData.keyHash P (PySem.Str.ofString "PICTURE_SIGNS"), key := PySem.Value.str (PySem.Str.ofString "PICTURE_SIGNS") 237, val := PySem.Value.str (PySem.Str.ofString "#0,.") 236 }, { hash := PySem.PyData.keyHash P (PySem.Str.ofString "MOST_DIGITS"), key := PySem.Value.str (PySem.Str.ofString "MOST_DIGITS") 239, val := PySem.Value.int 1000 238 }, { hash := PySem.PyData.keyHash P (PySem.Str.ofString "Picture"), key := PySem.Value.str (PySem.Str.ofString "Picture") 280, val := PySem.Value.ref 63 }, { hash := PySem.PyData.keyHash P (PySem.Str.ofString "check_digits"), key := PySem.Value.str (PySem.Str.ofString "check_digits") 288, val := PySem.Value.ref 74 }, { hash := PySem.PyData.keyHash P (PySem.Str.ofString "read_picture"), key := PySem.Value.str (PySem.Str.ofString "read_picture") 298, val := PySem.Value.ref 81 }, { hash := PySem.PyData.keyHash P (PySem.Str.ofString "half_even"), key := PySem.Value.str (PySem.Str.ofString "half_even") 308, val := PySem.Value.ref 88 }, { hash := PySem.PyData.keyHash P (PySem.Str.ofString "grouped"), key := PySem.Value.str (PySem.Str.ofString "grouped") 317, val := PySem.Value.ref 95 }, { hash := PySem.PyData.keyHash P (PySem.Str.ofString "digits_of"), key := PySem.Value.str (PySem.Str.ofString "digits_of") 331, val := PySem.Value.ref 102 }, { hash := PySem.PyData.keyHash P (PySem.Str.ofString "_law_pool"), key := PySem.Value.str (PySem.Str.ofString "_law_pool") 342, val := PySem.Value.ref 109 }, { hash := PySem.PyData.keyHash P (PySem.Str.ofString "_law_take"), key := PySem.Value.str (PySem.Str.ofString "_law_take") 351, val := PySem.Value.ref 116 }, { hash := PySem.PyData.keyHash P (PySem.Str.ofString "_law_one"), key := PySem.Value.str (PySem.Str.ofString "_law_one") 359, val := PySem.Value.ref 123 }, { hash := PySem.PyData.keyHash P (PySem.Str.ofString "_law_row"), key := PySem.Value.str (PySem.Str.ofString "_law_row") 375, val := PySem.Value.ref 130 }, { hash := PySem.PyData.keyHash P (PySem.Str.ofString "_law_nearest"), key := PySem.Value.str (PySem.Str.ofString "_law_nearest") 384, val := PySem.Value.ref 137 }, { hash := PySem.PyData.keyHash P (PySem.Str.ofString "_law_pieces"), key := PySem.Value.str (PySem.Str.ofString "_law_pieces") 394, val := PySem.Value.ref 144 }, { hash := PySem.PyData.keyHash P (PySem.Str.ofString "_law_figures"), key := PySem.Value.str (PySem.Str.ofString "_law_figures") 409, val := PySem.Value.ref 151 }, { hash := PySem.PyData.keyHash P (PySem.Str.ofString "_law_is_refused"), key := PySem.Value.str (PySem.Str.ofString "_law_is_refused") 416, val := PySem.Value.ref 158 }, { hash := PySem.PyData.keyHash P (PySem.Str.ofString "_law_right"), key := PySem.Value.str (PySem.Str.ofString "_law_right") 437, val := PySem.Value.ref 165 }, { hash := PySem.PyData.keyHash P (PySem.Str.ofString "law"), key := PySem.Value.str (PySem.Str.ofString "law") 450, val := PySem.Value.ref 172 }] 29 }) ::
  (nat_lit 15, { cls := PySem.Value.type "tuple", data := PySem.Data.seq #[PySem.Value.type "Exception"] }) ::
  (nat_lit 22, { cls := PySem.Value.type "tuple", data := PySem.Data.seq #[] }) ::
  (nat_lit 24, { cls := PySem.Value.type "tuple", data := PySem.Data.seq #[PySem.Value.str (PySem.Str.ofString "self") 204, PySem.Value.str (PySem.Str.ofString "message") 205] }) ::
  (nat_lit 25, { cls := PySem.Value.type "tuple", data := PySem.Data.seq #[] }) ::
  (nat_lit 27, { cls := PySem.Value.type "code", data := PySem.Data.fields #[PySem.Value.str (PySem.Str.ofString "__init__") 201, PySem.Value.str (PySem.Str.ofString "MarkupError.__init__") 202, PySem.Value.str (PySem.Str.ofString "/claim/cut.py") 203, PySem.Value.int 4 0, PySem.Value.int 2 0, PySem.Value.int 0 0, PySem.Value.int 0 0, PySem.Value.int 3 0, PySem.Value.ref 22, PySem.Value.bool Bool.true, PySem.Value.int 181 0, PySem.Value.ref 23, PySem.Value.none, PySem.Value.ref 24, PySem.Value.ref 25, PySem.Value.ref 26, PySem.Value.int 206 0, PySem.Value.int 4 0, PySem.Value.str (PySem.Str.ofString "/claim/cut.py") 207] }) ::
  (nat_lit 28, { cls := PySem.Value.type "function", data := PySem.Data.func { name := PySem.Str.ofString "__init__", qualname := PySem.Str.ofString "MarkupError.__init__", params := (by refine' (?f : ∀ b : Arguments, fA (nth (within (nth cells 1)) 0) = b → Arguments) _ ?h; (case h => conv => lhs; whnf); (case f => exact fun b _ => b)), body := (.stmts (by refine' (?f : ∀ b : List Stmt, fB (nth (within (nth cells 1)) 0) = b → List Stmt) _ ?h; (case h => conv => lhs; whnf); (case f => exact fun b _ => b))), scope := (by refine' (?f : ∀ b : Scope, fS (nth (within (nth cells 1)) 0) = b → Scope) _ ?h; (case h => conv => lhs; whnf); (case f => exact fun b _ => b)), globals := 3, closure := [], defaults := PySem.Value.none, kwdefaults := PySem.Value.none, pyModule := PySem.Value.str (PySem.Str.ofString "markupmill.errors") 187, code := PySem.Value.ref 27 } }) ::
  (nat_lit 29, { cls := PySem.Value.type "tuple", data := PySem.Data.seq #[PySem.Value.str (PySem.Str.ofString "message") 209] }) ::
  (nat_lit 30, { cls := PySem.Value.type "dict", data := PySem.Data.dict #[{ hash := PySem.PyData.keyHash P (PySem.Str.ofString "__module__"), key := PySem.Value.str (PySem.Str.ofString "__module__") 196, val := PySem.Value.str (PySem.Str.ofString "markupmill.errors") 187 }, { hash := PySem.PyData.keyHash P (PySem.Str.ofString "__firstlineno__"), key := PySem.Value.str (PySem.Str.ofString "__firstlineno__") 200, val := PySem.Value.int 2 199 }, { hash := PySem.PyData.keyHash P (PySem.Str.ofString "__init__"), key := PySem.Value.str (PySem.Str.ofString "__init__") 208, val := PySem.Value.ref 28 }, { hash := PySem.PyData.keyHash P (PySem.Str.ofString "__static_attributes__"), key := PySem.Value.str (PySem.Str.ofString "__static_attributes__") 210, val := PySem.Value.ref 29 }, { hash := PySem.PyData.keyHash P (PySem.Str.ofString "__weakref__"), key := PySem.Value.str (PySem.Str.ofString "__weakref__") 212, val := PySem.Value.ref 32 }, { hash := PySem.PyData.keyHash P (PySem.Str.ofString "__doc__"), key := PySem.Value.str (PySem.Str.ofString "__doc__") 213, val := PySem.Value.none }] 3 }) ::
  (nat_lit 31, { cls := PySem.Value.type "type", data := PySem.Data.cls { name := PySem.Str.ofString "MarkupError", bases := [PySem.Value.type "Exception"], mro := [PySem.Value.ref 31, PySem.Value.type "Exception", PySem.Value.type "BaseException", PySem.Value.type "object"], ns := 30, qualname := PySem.Str.ofString "MarkupError", subclasses := [PySem.Value.ref 44] }, slots := #[Option.some (PySem.Value.ref 15), Option.none, Option.some (PySem.Value.str (PySem.Str.ofString "MarkupError") 189), Option.some (PySem.Value.str (PySem.Str.ofString "MarkupError") 197), Option.some (PySem.Value.builtin "Exception.__new__"), Option.some (PySem.Value.bool Bool.true)] }) ::
  (nat_lit 32, { cls := PySem.Value.type "getset_descriptor", data := PySem.Data.fields #[PySem.Value.str (PySem.Str.ofString "__weakref__") 211, PySem.Value.ref 31, PySem.Value.builtin "ExceptionGroup.__weakref__", PySem.Value.none] }) ::
  (nat_lit 35, { cls := PySem.Value.type "tuple", data := PySem.Data.seq #[PySem.Value.ref 31] }) ::
  (nat_lit 42, { cls := PySem.Value.type "tuple", data := PySem.Data.seq #[] }) ::
  (nat_lit 43, { cls := PySem.Value.type "dict", data := PySem.Data.dict #[{ hash := PySem.PyData.keyHash P (PySem.Str.ofString "__module__"), key := PySem.Value.str (PySem.Str.ofString "__module__") 225, val := PySem.Value.str (PySem.Str.ofString "markupmill.errors") 187 }, { hash := PySem.PyData.keyHash P (PySem.Str.ofString "__firstlineno__"), key := PySem.Value.str (PySem.Str.ofString "__firstlineno__") 229, val := PySem.Value.int 7 228 }, { hash := PySem.PyData.keyHash P (PySem.Str.ofString "__static_attributes__"), key := PySem.Value.str (PySem.Str.ofString "__static_attributes__") 230, val := PySem.Value.ref 42 }, { hash := PySem.PyData.keyHash P (PySem.Str.ofString "__doc__"), key := PySem.Value.str (PySem.Str.ofString "__doc__") 231, val := PySem.Value.none }] 2 }) ::
  (nat_lit 44, { cls := PySem.Value.type "type", data := PySem.Data.cls { name := PySem.Str.ofString "SheetFault", bases := [PySem.Value.ref 31], mro := [PySem.Value.ref 44, PySem.Value.ref 31, PySem.Value.type "Exception", PySem.Value.type "BaseException", PySem.Value.type "object"], ns := 43, qualname := PySem.Str.ofString "SheetFault" }, slots := #[Option.some (PySem.Value.ref 35), Option.none, Option.some (PySem.Value.str (PySem.Str.ofString "SheetFault") 218), Option.some (PySem.Value.str (PySem.Str.ofString "SheetFault") 226), Option.some (PySem.Value.builtin "Exception.__new__"), Option.some (PySem.Value.bool Bool.true)] }) ::
  (nat_lit 54, { cls := PySem.Value.type "tuple", data := PySem.Data.seq #[] }) ::
  (nat_lit 56, { cls := PySem.Value.type "tuple", data := PySem.Data.seq #[PySem.Value.str (PySem.Str.ofString "self") 255, PySem.Value.str (PySem.Str.ofString "before") 256, PySem.Value.str (PySem.Str.ofString "body") 257, PySem.Value.str (PySem.Str.ofString "after") 258, PySem.Value.str (PySem.Str.ofString "whole") 259, PySem.Value.str (PySem.Str.ofString "point") 260, PySem.Value.str (PySem.Str.ofString "rest") 261, PySem.Value.str (PySem.Str.ofString "plain") 262] }) ::
  (nat_lit 57, { cls := PySem.Value.type "tuple", data := PySem.Data.seq #[] }) ::
  (nat_lit 59, { cls := PySem.Value.type "code", data := PySem.Data.fields #[PySem.Value.str (PySem.Str.ofString "__init__") 252, PySem.Value.str (PySem.Str.ofString "Picture.__init__") 253, PySem.Value.str (PySem.Str.ofString "/claim/cut.py") 254, PySem.Value.int 14 0, PySem.Value.int 4 0, PySem.Value.int 0 0, PySem.Value.int 0 0, PySem.Value.int 3 0, PySem.Value.ref 54, PySem.Value.bool Bool.true, PySem.Value.int 181 0, PySem.Value.ref 55, PySem.Value.none, PySem.Value.ref 56, PySem.Value.ref 57, PySem.Value.ref 58, PySem.Value.int 263 0, PySem.Value.int 14 0, PySem.Value.str (PySem.Str.ofString "/claim/cut.py") 264] }) ::
  (nat_lit 60, { cls := PySem.Value.type "function", data := PySem.Data.func { name := PySem.Str.ofString "__init__", qualname := PySem.Str.ofString "Picture.__init__", params := (by refine' (?f : ∀ b : Arguments, fA (nth (within (nth cells 6)) 0) = b → Arguments) _ ?h; (case h => conv => lhs; whnf); (case f => exact fun b _ => b)), body := (.stmts (by refine' (?f : ∀ b : List Stmt, fB (nth (within (nth cells 6)) 0) = b → List Stmt) _ ?h; (case h => conv => lhs; whnf); (case f => exact fun b _ => b))), scope := (by refine' (?f : ∀ b : Scope, fS (nth (within (nth cells 6)) 0) = b → Scope) _ ?h; (case h => conv => lhs; whnf); (case f => exact fun b _ => b)), globals := 3, closure := [], defaults := PySem.Value.none, kwdefaults := PySem.Value.none, pyModule := PySem.Value.str (PySem.Str.ofString "markupmill.number_format") 234, code := PySem.Value.ref 59 } }) ::
  (nat_lit 61, { cls := PySem.Value.type "tuple", data := PySem.Data.seq #[PySem.Value.str (PySem.Str.ofString "after") 266, PySem.Value.str (PySem.Str.ofString "before") 267, PySem.Value.str (PySem.Str.ofString "factor") 268, PySem.Value.str (PySem.Str.ofString "group") 269, PySem.Value.str (PySem.Str.ofString "least_rest") 270, PySem.Value.str (PySem.Str.ofString "least_whole") 271, PySem.Value.str (PySem.Str.ofString "most_rest") 272] }) ::
  (nat_lit 62, { cls := PySem.Value.type "dict", data := PySem.Data.dict #[{ hash := PySem.PyData.keyHash P (PySem.Str.ofString "__module__"), key := PySem.Value.str (PySem.Str.ofString "__module__") 247, val := PySem.Value.str (PySem.Str.ofString "markupmill.number_format") 234 }, { hash := PySem.PyData.keyHash P (PySem.Str.ofString "__firstlineno__"), key := PySem.Value.str (PySem.Str.ofString "__firstlineno__") 251, val := PySem.Value.int 12 250 }, { hash := PySem.PyData.keyHash P (PySem.Str.ofString "__init__"), key := PySem.Value.str (PySem.Str.ofString "__init__") 265, val := PySem.Value.ref 60 }, { hash := PySem.PyData.keyHash P (PySem.Str.ofString "__static_attributes__"), key := PySem.Value.str (PySem.Str.ofString "__static_attributes__") 273, val := PySem.Value.ref 61 }, { hash := PySem.PyData.keyHash P (PySem.Str.ofString "__dict__"), key := PySem.Value.str (PySem.Str.ofString "__dict__") 275, val := PySem.Value.ref 64 }, { hash := PySem.PyData.keyHash P (PySem.Str.ofString "__weakref__"), key := PySem.Value.str (PySem.Str.ofString "__weakref__") 277, val := PySem.Value.ref 65 }, { hash := PySem.PyData.keyHash P (PySem.Str.ofString "__doc__"), key := PySem.Value.str (PySem.Str.ofString "__doc__") 278, val := PySem.Value.none }] 4 }) ::
  (nat_lit 63, { cls := PySem.Value.type "type", data := PySem.Data.cls { name := PySem.Str.ofString "Picture", bases := [PySem.Value.type "object"], mro := [PySem.Value.ref 63, PySem.Value.type "object"], ns := 62, qualname := PySem.Str.ofString "Picture" }, slots := #[Option.none, Option.none, Option.some (PySem.Value.str (PySem.Str.ofString "Picture") 240), Option.some (PySem.Value.str (PySem.Str.ofString "Picture") 248), Option.some (PySem.Value.builtin "object.__new__"), Option.some (PySem.Value.bool Bool.true)] }) ::
  (nat_lit 64, { cls := PySem.Value.type "getset_descriptor", data := PySem.Data.fields #[PySem.Value.str (PySem.Str.ofString "__dict__") 274, PySem.Value.ref 63, PySem.Value.builtin "function.__dict__", PySem.Value.builtin "function.__dict__#set"] }) ::
  (nat_lit 65, { cls := PySem.Value.type "getset_descriptor", data := PySem.Data.fields #[PySem.Value.str (PySem.Str.ofString "__weakref__") 276, PySem.Value.ref 63, PySem.Value.builtin "ExceptionGroup.__weakref__", PySem.Value.none] }) ::
  (nat_lit 68, { cls := PySem.Value.type "tuple", data := PySem.Data.seq #[] }) ::
  (nat_lit 70, { cls := PySem.Value.type "tuple", data := PySem.Data.seq #[PySem.Value.str (PySem.Str.ofString "whole") 284, PySem.Value.str (PySem.Str.ofString "rest") 285] }) ::
  (nat_lit 71, { cls := PySem.Value.type "tuple", data := PySem.Data.seq #[] }) ::
  (nat_lit 73, { cls := PySem.Value.type "code", data := PySem.Data.fields #[PySem.Value.str (PySem.Str.ofString "check_digits") 281, PySem.Value.str (PySem.Str.ofString "check_digits") 282, PySem.Value.str (PySem.Str.ofString "/claim/cut.py") 283, PySem.Value.int 29 0, PySem.Value.int 2 0, PySem.Value.int 0 0, PySem.Value.int 0 0, PySem.Value.int 3 0, PySem.Value.ref 68, PySem.Value.bool Bool.true, PySem.Value.int 181 0, PySem.Value.ref 69, PySem.Value.none, PySem.Value.ref 70, PySem.Value.ref 71, PySem.Value.ref 72, PySem.Value.int 286 0, PySem.Value.int 29 0, PySem.Value.str (PySem.Str.ofString "/claim/cut.py") 287] }) ::
  (nat_lit 74, { cls := PySem.Value.type "function", data := PySem.Data.func { name := PySem.Str.ofString "check_digits", qualname := PySem.Str.ofString "check_digits", params := (by refine' (?f : ∀ b : Arguments, fA (nth cells 7) = b → Arguments) _ ?h; (case h => conv => lhs; whnf); (case f => exact fun b _ => b)), body := (.stmts (by refine' (?f : ∀ b : List Stmt, fB (nth cells 7) = b → List Stmt) _ ?h; (case h => conv => lhs; whnf); (case f => exact fun b _ => b))), scope := (by refine' (?f : ∀ b : Scope, fS (nth cells 7) = b → Scope) _ ?h; (case h => conv => lhs; whnf); (case f => exact fun b _ => b)), globals := 3, closure := [], defaults := PySem.Value.none, kwdefaults := PySem.Value.none, pyModule := PySem.Value.str (PySem.Str.ofString "markupmill.number_format") 234, code := PySem.Value.ref 73 } }) ::
  (nat_lit 75, { cls := PySem.Value.type "tuple", data := PySem.Data.seq #[] }) ::
  (nat_lit 77, { cls := PySem.Value.type "tuple", data := PySem.Data.seq #[PySem.Value.str (PySem.Str.ofString "text") 292, PySem.Value.str (PySem.Str.ofString "begin") 293, PySem.Value.str (PySem.Str.ofString "end") 294, PySem.Value.str (PySem.Str.ofString "sign") 295] }) ::
  (nat_lit 78, { cls := PySem.Value.type "tuple", data := PySem.Data.seq #[] }) ::
  (nat_lit 80, { cls := PySem.Value.type "code", data := PySem.Data.fields #[PySem.Value.str (PySem.Str.ofString "read_picture") 289, PySem.Value.str (PySem.Str.ofString "read_picture") 290, PySem.Value.str (PySem.Str.ofString "/claim/cut.py") 291, PySem.Value.int 36 0, PySem.Value.int 1 0, PySem.Value.int 0 0, PySem.Value.int 0 0, PySem.Value.int 3 0, PySem.Value.ref 75, PySem.Value.bool Bool.true, PySem.Value.int 181 0, PySem.Value.ref 76, PySem.Value.none, PySem.Value.ref 77, PySem.Value.ref 78, PySem.Value.ref 79, PySem.Value.int 296 0, PySem.Value.int 36 0, PySem.Value.str (PySem.Str.ofString "/claim/cut.py") 297] }) ::
  (nat_lit 81, { cls := PySem.Value.type "function", data := PySem.Data.func { name := PySem.Str.ofString "read_picture", qualname := PySem.Str.ofString "read_picture", params := (by refine' (?f : ∀ b : Arguments, fA (nth cells 8) = b → Arguments) _ ?h; (case h => conv => lhs; whnf); (case f => exact fun b _ => b)), body := (.stmts (by refine' (?f : ∀ b : List Stmt, fB (nth cells 8) = b → List Stmt) _ ?h; (case h => conv => lhs; whnf); (case f => exact fun b _ => b))), scope := (by refine' (?f : ∀ b : Scope, fS (nth cells 8) = b → Scope) _ ?h; (case h => conv => lhs; whnf); (case f => exact fun b _ => b)), globals := 3, closure := [], defaults := PySem.Value.none, kwdefaults := PySem.Value.none, pyModule := PySem.Value.str (PySem.Str.ofString "markupmill.number_format") 234, code := PySem.Value.ref 80 } }) ::
  (nat_lit 82, { cls := PySem.Value.type "tuple", data := PySem.Data.seq #[] }) ::
  (nat_lit 84, { cls := PySem.Value.type "tuple", data := PySem.Data.seq #[PySem.Value.str (PySem.Str.ofString "top") 302, PySem.Value.str (PySem.Str.ofString "bottom") 303, PySem.Value.str (PySem.Str.ofString "whole") 304, PySem.Value.str (PySem.Str.ofString "twice") 305] }) ::
  (nat_lit 85, { cls := PySem.Value.type "tuple", data := PySem.Data.seq #[] }) ::
  (nat_lit 87, { cls := PySem.Value.type "code", data := PySem.Data.fields #[PySem.Value.str (PySem.Str.ofString "half_even") 299, PySem.Value.str (PySem.Str.ofString "half_even") 300, PySem.Value.str (PySem.Str.ofString "/claim/cut.py") 301, PySem.Value.int 47 0, PySem.Value.int 2 0, PySem.Value.int 0 0, PySem.Value.int 0 0, PySem.Value.int 3 0, PySem.Value.ref 82, PySem.Value.bool Bool.true, PySem.Value.int 181 0, PySem.Value.ref 83, PySem.Value.none, PySem.Value.ref 84, PySem.Value.ref 85, PySem.Value.ref 86, PySem.Value.int 306 0, PySem.Value.int 47 0, PySem.Value.str (PySem.Str.ofString "/claim/cut.py") 307] }) ::
  (nat_lit 88, { cls := PySem.Value.type "function", data := PySem.Data.func { name := PySem.Str.ofString "half_even", qualname := PySem.Str.ofString "half_even", params := (by refine' (?f : ∀ b : Arguments, fA (nth cells 9) = b → Arguments) _ ?h; (case h => conv => lhs; whnf); (case f => exact fun b _ => b)), body := (.stmts (by refine' (?f : ∀ b : List Stmt, fB (nth cells 9) = b → List Stmt) _ ?h; (case h => conv => lhs; whnf); (case f => exact fun b _ => b))), scope := (by refine' (?f : ∀ b : Scope, fS (nth cells 9) = b → Scope) _ ?h; (case h => conv => lhs; whnf); (case f => exact fun b _ => b)), globals := 3, closure := [], defaults := PySem.Value.none, kwdefaults := PySem.Value.none, pyModule := PySem.Value.str (PySem.Str.ofString "markupmill.number_format") 234, code := PySem.Value.ref 87 } }) ::
  (nat_lit 89, { cls := PySem.Value.type "tuple", data := PySem.Data.seq #[] }) ::
  (nat_lit 91, { cls := PySem.Value.type "tuple", data := PySem.Data.seq #[PySem.Value.str (PySem.Str.ofString "digits") 312, PySem.Value.str (PySem.Str.ofString "size") 313, PySem.Value.str (PySem.Str.ofString "found") 314] }) ::
  (nat_lit 92, { cls := PySem.Value.type "tuple", data := PySem.Data.seq #[] }) ::
  (nat_lit 94, { cls := PySem.Value.type "code", data := PySem.Data.fields #[PySem.Value.str (PySem.Str.ofString "grouped") 309, PySem.Value.str (PySem.Str.ofString "grouped") 310, PySem.Value.str (PySem.Str.ofString "/claim/cut.py") 311, PySem.Value.int 53 0, PySem.Value.int 2 0, PySem.Value.int 0 0, PySem.Value.int 0 0, PySem.Value.int 3 0, PySem.Value.ref 89, PySem.Value.bool Bool.true, PySem.Value.int 181 0, PySem.Value.ref 90, PySem.Value.none, PySem.Value.ref 91, PySem.Value.ref 92, PySem.Value.ref 93, PySem.Value.int 315 0, PySem.Value.int 53 0, PySem.Value.str (PySem.Str.ofString "/claim/cut.py") 316] }) ::
  (nat_lit 95, { cls := PySem.Value.type "function", data := PySem.Data.func { name := PySem.Str.ofString "grouped", qualname := PySem.Str.ofString "grouped", params := (by refine' (?f : ∀ b : Arguments, fA (nth cells 10) = b → Arguments) _ ?h; (case h => conv => lhs; whnf); (case f => exact fun b _ => b)), body := (.stmts (by refine' (?f : ∀ b : List Stmt, fB (nth cells 10) = b → List Stmt) _ ?h; (case h => conv => lhs; whnf); (case f => exact fun b _ => b))), scope := (by refine' (?f : ∀ b : Scope, fS (nth cells 10) = b → Scope) _ ?h; (case h => conv => lhs; whnf); (case f => exact fun b _ => b)), globals := 3, closure := [], defaults := PySem.Value.none, kwdefaults := PySem.Value.none, pyModule := PySem.Value.str (PySem.Str.ofString "markupmill.number_format") 234, code := PySem.Value.ref 94 } }) ::
  (nat_lit 96, { cls := PySem.Value.type "tuple", data := PySem.Data.seq #[] }) ::
  (nat_lit 98, { cls := PySem.Value.type "tuple", data := PySem.Data.seq #[PySem.Value.str (PySem.Str.ofString "picture") 321, PySem.Value.str (PySem.Str.ofString "top") 322, PySem.Value.str (PySem.Str.ofString "bottom") 323, PySem.Value.str (PySem.Str.ofString "scale") 324, PySem.Value.str (PySem.Str.ofString "number") 325, PySem.Value.str (PySem.Str.ofString "whole") 326, PySem.Value.str (PySem.Str.ofString "rest") 327, PySem.Value.str (PySem.Str.ofString "told") 328] }) ::
  (nat_lit 99, { cls := PySem.Value.type "tuple", data := PySem.Data.seq #[] }) ::
  (nat_lit 101, { cls := PySem.Value.type "code", data := PySem.Data.fields #[PySem.Value.str (PySem.Str.ofString "digits_of") 318, PySem.Value.str (PySem.Str.ofString "digits_of") 319, PySem.Value.str (PySem.Str.ofString "/claim/cut.py") 320, PySem.Value.int 61 0, PySem.Value.int 3 0, PySem.Value.int 0 0, PySem.Value.int 0 0, PySem.Value.int 3 0, PySem.Value.ref 96, PySem.Value.bool Bool.true, PySem.Value.int 181 0, PySem.Value.ref 97, PySem.Value.none, PySem.Value.ref 98, PySem.Value.ref 99, PySem.Value.ref 100, PySem.Value.int 329 0, PySem.Value.int 61 0, PySem.Value.str (PySem.Str.ofString "/claim/cut.py") 330] }) ::
  (nat_lit 102, { cls := PySem.Value.type "function", data := PySem.Data.func { name := PySem.Str.ofString "digits_of", qualname := PySem.Str.ofString "digits_of", params := (by refine' (?f : ∀ b : Arguments, fA (nth cells 11) = b → Arguments) _ ?h; (case h => conv => lhs; whnf); (case f => exact fun b _ => b)), body := (.stmts (by refine' (?f : ∀ b : List Stmt, fB (nth cells 11) = b → List Stmt) _ ?h; (case h => conv => lhs; whnf); (case f => exact fun b _ => b))), scope := (by refine' (?f : ∀ b : Scope, fS (nth cells 11) = b → Scope) _ ?h; (case h => conv => lhs; whnf); (case f => exact fun b _ => b)), globals := 3, closure := [], defaults := PySem.Value.none, kwdefaults := PySem.Value.none, pyModule := PySem.Value.str (PySem.Str.ofString "markupmill.number_format") 234, code := PySem.Value.ref 101 } }) ::
  (nat_lit 103, { cls := PySem.Value.type "tuple", data := PySem.Data.seq #[] }) ::
  (nat_lit 105, { cls := PySem.Value.type "tuple", data := PySem.Data.seq #[PySem.Value.str (PySem.Str.ofString "script") 337, PySem.Value.str (PySem.Str.ofString "cell") 338, PySem.Value.str (PySem.Str.ofString "big") 339] }) ::
  (nat_lit 106, { cls := PySem.Value.type "tuple", data := PySem.Data.seq #[] }) ::
  (nat_lit 108, { cls := PySem.Value.type "code", data := PySem.Data.fields #[PySem.Value.str (PySem.Str.ofString "_law_pool") 334, PySem.Value.str (PySem.Str.ofString "_law_pool") 335, PySem.Value.str (PySem.Str.ofString "/claim/cut.py") 336, PySem.Value.int 74 0, PySem.Value.int 1 0, PySem.Value.int 0 0, PySem.Value.int 0 0, PySem.Value.int 3 0, PySem.Value.ref 103, PySem.Value.bool Bool.true, PySem.Value.int 181 0, PySem.Value.ref 104, PySem.Value.none, PySem.Value.ref 105, PySem.Value.ref 106, PySem.Value.ref 107, PySem.Value.int 340 0, PySem.Value.int 74 0, PySem.Value.str (PySem.Str.ofString "/claim/cut.py") 341] }) ::
  (nat_lit 109, { cls := PySem.Value.type "function", data := PySem.Data.func { name := PySem.Str.ofString "_law_pool", qualname := PySem.Str.ofString "_law_pool", params := (by refine' (?f : ∀ b : Arguments, fA (nth cells 13) = b → Arguments) _ ?h; (case h => conv => lhs; whnf); (case f => exact fun b _ => b)), body := (.stmts (by refine' (?f : ∀ b : List Stmt, fB (nth cells 13) = b → List Stmt) _ ?h; (case h => conv => lhs; whnf); (case f => exact fun b _ => b))), scope := (by refine' (?f : ∀ b : Scope, fS (nth cells 13) = b → Scope) _ ?h; (case h => conv => lhs; whnf); (case f => exact fun b _ => b)), globals := 3, closure := [], defaults := PySem.Value.none, kwdefaults := PySem.Value.none, pyModule := PySem.Value.str (PySem.Str.ofString "law_xm0635_01") 332, code := PySem.Value.ref 108 } }) ::
  (nat_lit 110, { cls := PySem.Value.type "tuple", data := PySem.Data.seq #[] }) ::
  (nat_lit 112, { cls := PySem.Value.type "tuple", data := PySem.Data.seq #[PySem.Value.str (PySem.Str.ofString "source") 346, PySem.Value.str (PySem.Str.ofString "top") 347, PySem.Value.str (PySem.Str.ofString "drawn") 348] }) ::
  (nat_lit 113, { cls := PySem.Value.type "tuple", data := PySem.Data.seq #[] }) ::
  (nat_lit 115, { cls := PySem.Value.type "code", data := PySem.Data.fields #[PySem.Value.str (PySem.Str.ofString "_law_take") 343, PySem.Value.str (PySem.Str.ofString "_law_take") 344, PySem.Value.str (PySem.Str.ofString "/claim/cut.py") 345, PySem.Value.int 80 0, PySem.Value.int 2 0, PySem.Value.int 0 0, PySem.Value.int 0 0, PySem.Value.int 3 0, PySem.Value.ref 110, PySem.Value.bool Bool.true, PySem.Value.int 181 0, PySem.Value.ref 111, PySem.Value.none, PySem.Value.ref 112, PySem.Value.ref 113, PySem.Value.ref 114, PySem.Value.int 349 0, PySem.Value.int 80 0, PySem.Value.str (PySem.Str.ofString "/claim/cut.py") 350] }) ::
  (nat_lit 116, { cls := PySem.Value.type "function", data := PySem.Data.func { name := PySem.Str.ofString "_law_take", qualname := PySem.Str.ofString "_law_take", params := (by refine' (?f : ∀ b : Arguments, fA (nth cells 14) = b → Arguments) _ ?h; (case h => conv => lhs; whnf); (case f => exact fun b _ => b)), body := (.stmts (by refine' (?f : ∀ b : List Stmt, fB (nth cells 14) = b → List Stmt) _ ?h; (case h => conv => lhs; whnf); (case f => exact fun b _ => b))), scope := (by refine' (?f : ∀ b : Scope, fS (nth cells 14) = b → Scope) _ ?h; (case h => conv => lhs; whnf); (case f => exact fun b _ => b)), globals := 3, closure := [], defaults := PySem.Value.none, kwdefaults := PySem.Value.none, pyModule := PySem.Value.str (PySem.Str.ofString "law_xm0635_01") 332, code := PySem.Value.ref 115 } }) ::
  (nat_lit 117, { cls := PySem.Value.type "tuple", data := PySem.Data.seq #[] }) ::
  (nat_lit 119, { cls := PySem.Value.type "tuple", data := PySem.Data.seq #[PySem.Value.str (PySem.Str.ofString "source") 355, PySem.Value.str (PySem.Str.ofString "things") 356] }) ::
  (nat_lit 120, { cls := PySem.Value.type "tuple", data := PySem.Data.seq #[] }) ::
  (nat_lit 122, { cls := PySem.Value.type "code", data := PySem.Data.fields #[PySem.Value.str (PySem.Str.ofString "_law_one") 352, PySem.Value.str (PySem.Str.ofString "_law_one") 353, PySem.Value.str (PySem.Str.ofString "/claim/cut.py") 354, PySem.Value.int 87 0, PySem.Value.int 2 0, PySem.Value.int 0 0, PySem.Value.int 0 0, PySem.Value.int 3 0, PySem.Value.ref 117, PySem.Value.bool Bool.true, PySem.Value.int 181 0, PySem.Value.ref 118, PySem.Value.none, PySem.Value.ref 119, PySem.Value.ref 120, PySem.Value.ref 121, PySem.Value.int 357 0, PySem.Value.int 87 0, PySem.Value.str (PySem.Str.ofString "/claim/cut.py") 358] }) ::
  (nat_lit 123, { cls := PySem.Value.type "function", data := PySem.Data.func { name := PySem.Str.ofString "_law_one", qualname := PySem.Str.ofString "_law_one", params := (by refine' (?f : ∀ b : Arguments, fA (nth cells 15) = b → Arguments) _ ?h; (case h => conv => lhs; whnf); (case f => exact fun b _ => b)), body := (.stmts (by refine' (?f : ∀ b : List Stmt, fB (nth cells 15) = b → List Stmt) _ ?h; (case h => conv => lhs; whnf); (case f => exact fun b _ => b))), scope := (by refine' (?f : ∀ b : Scope, fS (nth cells 15) = b → Scope) _ ?h; (case h => conv => lhs; whnf); (case f => exact fun b _ => b)), globals := 3, closure := [], defaults := PySem.Value.none, kwdefaults := PySem.Value.none, pyModule := PySem.Value.str (PySem.Str.ofString "law_xm0635_01") 332, code := PySem.Value.ref 122 } }) ::
  (nat_lit 124, { cls := PySem.Value.type "tuple", data := PySem.Data.seq #[] }) ::
  (nat_lit 126, { cls := PySem.Value.type "tuple", data := PySem.Data.seq #[PySem.Value.str (PySem.Str.ofString "source") 363, PySem.Value.str (PySem.Str.ofString "maybe") 364, PySem.Value.str (PySem.Str.ofString "must") 365, PySem.Value.str (PySem.Str.ofString "least") 366, PySem.Value.str (PySem.Str.ofString "more") 367, PySem.Value.str (PySem.Str.ofString "whole") 368, PySem.Value.str (PySem.Str.ofString "behind") 369, PySem.Value.str (PySem.Str.ofString "turn") 370, PySem.Value.str (PySem.Str.ofString "at") 371, PySem.Value.str (PySem.Str.ofString "point") 372] }) ::
  (nat_lit 127, { cls := PySem.Value.type "tuple", data := PySem.Data.seq #[] }) ::
  (nat_lit 129, { cls := PySem.Value.type "code", data := PySem.Data.fields #[PySem.Value.str (PySem.Str.ofString "_law_row") 360, PySem.Value.str (PySem.Str.ofString "_law_row") 361, PySem.Value.str (PySem.Str.ofString "/claim/cut.py") 362, PySem.Value.int 89 0, PySem.Value.int 1 0, PySem.Value.int 0 0, PySem.Value.int 0 0, PySem.Value.int 3 0, PySem.Value.ref 124, PySem.Value.bool Bool.true, PySem.Value.int 181 0, PySem.Value.ref 125, PySem.Value.none, PySem.Value.ref 126, PySem.Value.ref 127, PySem.Value.ref 128, PySem.Value.int 373 0, PySem.Value.int 89 0, PySem.Value.str (PySem.Str.ofString "/claim/cut.py") 374] }) ::
  (nat_lit 130, { cls := PySem.Value.type "function", data := PySem.Data.func { name := PySem.Str.ofString "_law_row", qualname := PySem.Str.ofString "_law_row", params := (by refine' (?f : ∀ b : Arguments, fA (nth cells 16) = b → Arguments) _ ?h; (case h => conv => lhs; whnf); (case f => exact fun b _ => b)), body := (.stmts (by refine' (?f : ∀ b : List Stmt, fB (nth cells 16) = b → List Stmt) _ ?h; (case h => conv => lhs; whnf); (case f => exact fun b _ => b))), scope := (by refine' (?f : ∀ b : Scope, fS (nth cells 16) = b → Scope) _ ?h; (case h => conv => lhs; whnf); (case f => exact fun b _ => b)), globals := 3, closure := [], defaults := PySem.Value.none, kwdefaults := PySem.Value.none, pyModule := PySem.Value.str (PySem.Str.ofString "law_xm0635_01") 332, code := PySem.Value.ref 129 } }) ::
  (nat_lit 131, { cls := PySem.Value.type "tuple", data := PySem.Data.seq #[] }) ::
  (nat_lit 133, { cls := PySem.Value.type "tuple", data := PySem.Data.seq #[PySem.Value.str (PySem.Str.ofString "top") 379, PySem.Value.str (PySem.Str.ofString "bottom") 380, PySem.Value.str (PySem.Str.ofString "found") 381] }) ::
  (nat_lit 134, { cls := PySem.Value.type "tuple", data := PySem.Data.seq #[] }) ::
  (nat_lit 136, { cls := PySem.Value.type "code", data := PySem.Data.fields #[PySem.Value.str (PySem.Str.ofString "_law_nearest") 376, PySem.Value.str (PySem.Str.ofString "_law_nearest") 377, PySem.Value.str (PySem.Str.ofString "/claim/cut.py") 378, PySem.Value.int 103 0, PySem.Value.int 2 0, PySem.Value.int 0 0, PySem.Value.int 0 0, PySem.Value.int 3 0, PySem.Value.ref 131, PySem.Value.bool Bool.true, PySem.Value.int 181 0, PySem.Value.ref 132, PySem.Value.none, PySem.Value.ref 133, PySem.Value.ref 134, PySem.Value.ref 135, PySem.Value.int 382 0, PySem.Value.int 103 0, PySem.Value.str (PySem.Str.ofString "/claim/cut.py") 383] }) ::
  (nat_lit 137, { cls := PySem.Value.type "function", data := PySem.Data.func { name := PySem.Str.ofString "_law_nearest", qualname := PySem.Str.ofString "_law_nearest", params := (by refine' (?f : ∀ b : Arguments, fA (nth cells 17) = b → Arguments) _ ?h; (case h => conv => lhs; whnf); (case f => exact fun b _ => b)), body := (.stmts (by refine' (?f : ∀ b : List Stmt, fB (nth cells 17) = b → List Stmt) _ ?h; (case h => conv => lhs; whnf); (case f => exact fun b _ => b))), scope := (by refine' (?f : ∀ b : Scope, fS (nth cells 17) = b → Scope) _ ?h; (case h => conv => lhs; whnf); (case f => exact fun b _ => b)), globals := 3, closure := [], defaults := PySem.Value.none, kwdefaults := PySem.Value.none, pyModule := PySem.Value.str (PySem.Str.ofString "law_xm0635_01") 332, code := PySem.Value.ref 136 } }) ::
  (nat_lit 138, { cls := PySem.Value.type "tuple", data := PySem.Data.seq #[] }) ::
  (nat_lit 140, { cls := PySem.Value.type "tuple", data := PySem.Data.seq #[PySem.Value.str (PySem.Str.ofString "figures") 388, PySem.Value.str (PySem.Str.ofString "size") 389, PySem.Value.str (PySem.Str.ofString "found") 390, PySem.Value.str (PySem.Str.ofString "at") 391] }) ::
  (nat_lit 141, { cls := PySem.Value.type "tuple", data := PySem.Data.seq #[] }) ::
  (nat_lit 143, { cls := PySem.Value.type "code", data := PySem.Data.fields #[PySem.Value.str (PySem.Str.ofString "_law_pieces") 385, PySem.Value.str (PySem.Str.ofString "_law_pieces") 386, PySem.Value.str (PySem.Str.ofString "/claim/cut.py") 387, PySem.Value.int 108 0, PySem.Value.int 2 0, PySem.Value.int 0 0, PySem.Value.int 0 0, PySem.Value.int 3 0, PySem.Value.ref 138, PySem.Value.bool Bool.true, PySem.Value.int 181 0, PySem.Value.ref 139, PySem.Value.none, PySem.Value.ref 140, PySem.Value.ref 141, PySem.Value.ref 142, PySem.Value.int 392 0, PySem.Value.int 108 0, PySem.Value.str (PySem.Str.ofString "/claim/cut.py") 393] }) ::
  (nat_lit 144, { cls := PySem.Value.type "function", data := PySem.Data.func { name := PySem.Str.ofString "_law_pieces", qualname := PySem.Str.ofString "_law_pieces", params := (by refine' (?f : ∀ b : Arguments, fA (nth cells 18) = b → Arguments) _ ?h; (case h => conv => lhs; whnf); (case f => exact fun b _ => b)), body := (.stmts (by refine' (?f : ∀ b : List Stmt, fB (nth cells 18) = b → List Stmt) _ ?h; (case h => conv => lhs; whnf); (case f => exact fun b _ => b))), scope := (by refine' (?f : ∀ b : Scope, fS (nth cells 18) = b → Scope) _ ?h; (case h => conv => lhs; whnf); (case f => exact fun b _ => b)), globals := 3, closure := [], defaults := PySem.Value.none, kwdefaults := PySem.Value.none, pyModule := PySem.Value.str (PySem.Str.ofString "law_xm0635_01") 332, code := PySem.Value.ref 143 } }) ::
  (nat_lit 145, { cls := PySem.Value.type "tuple", data := PySem.Data.seq #[] }) ::
  (nat_lit 147, { cls := PySem.Value.type "tuple", data := PySem.Data.seq #[PySem.Value.str (PySem.Str.ofString "must") 398, PySem.Value.str (PySem.Str.ofString "size") 399, PySem.Value.str (PySem.Str.ofString "least") 400, PySem.Value.str (PySem.Str.ofString "most") 401, PySem.Value.str (PySem.Str.ofString "top") 402, PySem.Value.str (PySem.Str.ofString "bottom") 403, PySem.Value.str (PySem.Str.ofString "told") 404, PySem.Value.str (PySem.Str.ofString "whole") 405, PySem.Value.str (PySem.Str.ofString "rest") 406] }) ::
  (nat_lit 148, { cls := PySem.Value.type "tuple", data := PySem.Data.seq #[] }) ::
  (nat_lit 150, { cls := PySem.Value.type "code", data := PySem.Data.fields #[PySem.Value.str (PySem.Str.ofString "_law_figures") 395, PySem.Value.str (PySem.Str.ofString "_law_figures") 396, PySem.Value.str (PySem.Str.ofString "/claim/cut.py") 397, PySem.Value.int 115 0, PySem.Value.int 6 0, PySem.Value.int 0 0, PySem.Value.int 0 0, PySem.Value.int 3 0, PySem.Value.ref 145, PySem.Value.bool Bool.true, PySem.Value.int 181 0, PySem.Value.ref 146, PySem.Value.none, PySem.Value.ref 147, PySem.Value.ref 148, PySem.Value.ref 149, PySem.Value.int 407 0, PySem.Value.int 115 0, PySem.Value.str (PySem.Str.ofString "/claim/cut.py") 408] }) ::
  (nat_lit 151, { cls := PySem.Value.type "function", data := PySem.Data.func { name := PySem.Str.ofString "_law_figures", qualname := PySem.Str.ofString "_law_figures", params := (by refine' (?f : ∀ b : Arguments, fA (nth cells 19) = b → Arguments) _ ?h; (case h => conv => lhs; whnf); (case f => exact fun b _ => b)), body := (.stmts (by refine' (?f : ∀ b : List Stmt, fB (nth cells 19) = b → List Stmt) _ ?h; (case h => conv => lhs; whnf); (case f => exact fun b _ => b))), scope := (by refine' (?f : ∀ b : Scope, fS (nth cells 19) = b → Scope) _ ?h; (case h => conv => lhs; whnf); (case f => exact fun b _ => b)), globals := 3, closure := [], defaults := PySem.Value.none, kwdefaults := PySem.Value.none, pyModule := PySem.Value.str (PySem.Str.ofString "law_xm0635_01") 332, code := PySem.Value.ref 150 } }) ::
  (nat_lit 152, { cls := PySem.Value.type "tuple", data := PySem.Data.seq #[] }) ::
  (nat_lit 154, { cls := PySem.Value.type "tuple", data := PySem.Data.seq #[PySem.Value.str (PySem.Str.ofString "text") 413] }) ::
  (nat_lit 155, { cls := PySem.Value.type "tuple", data := PySem.Data.seq #[] }) ::
  (nat_lit 157, { cls := PySem.Value.type "code", data := PySem.Data.fields #[PySem.Value.str (PySem.Str.ofString "_law_is_refused") 410, PySem.Value.str (PySem.Str.ofString "_law_is_refused") 411, PySem.Value.str (PySem.Str.ofString "/claim/cut.py") 412, PySem.Value.int 125 0, PySem.Value.int 1 0, PySem.Value.int 0 0, PySem.Value.int 0 0, PySem.Value.int 3 0, PySem.Value.ref 152, PySem.Value.bool Bool.true, PySem.Value.int 181 0, PySem.Value.ref 153, PySem.Value.none, PySem.Value.ref 154, PySem.Value.ref 155, PySem.Value.ref 156, PySem.Value.int 414 0, PySem.Value.int 125 0, PySem.Value.str (PySem.Str.ofString "/claim/cut.py") 415] }) ::
  (nat_lit 158, { cls := PySem.Value.type "function", data := PySem.Data.func { name := PySem.Str.ofString "_law_is_refused", qualname := PySem.Str.ofString "_law_is_refused", params := (by refine' (?f : ∀ b : Arguments, fA (nth cells 20) = b → Arguments) _ ?h; (case h => conv => lhs; whnf); (case f => exact fun b _ => b)), body := (.stmts (by refine' (?f : ∀ b : List Stmt, fB (nth cells 20) = b → List Stmt) _ ?h; (case h => conv => lhs; whnf); (case f => exact fun b _ => b))), scope := (by refine' (?f : ∀ b : Scope, fS (nth cells 20) = b → Scope) _ ?h; (case h => conv => lhs; whnf); (case f => exact fun b _ => b)), globals := 3, closure := [], defaults := PySem.Value.none, kwdefaults := PySem.Value.none, pyModule := PySem.Value.str (PySem.Str.ofString "law_xm0635_01") 332, code := PySem.Value.ref 157 } }) ::
  (nat_lit 159, { cls := PySem.Value.type "tuple", data := PySem.Data.seq #[] }) ::
  (nat_lit 161, { cls := PySem.Value.type "tuple", data := PySem.Data.seq #[PySem.Value.str (PySem.Str.ofString "source") 420, PySem.Value.str (PySem.Str.ofString "row") 421, PySem.Value.str (PySem.Str.ofString "must") 422, PySem.Value.str (PySem.Str.ofString "size") 423, PySem.Value.str (PySem.Str.ofString "least") 424, PySem.Value.str (PySem.Str.ofString "most") 425, PySem.Value.str (PySem.Str.ofString "signs") 426, PySem.Value.str (PySem.Str.ofString "ahead") 427, PySem.Value.str (PySem.Str.ofString "behind") 428, PySem.Value.str (PySem.Str.ofString "factor") 429, PySem.Value.str (PySem.Str.ofString "told") 430, PySem.Value.str (PySem.Str.ofString "top") 431, PySem.Value.str (PySem.Str.ofString "bottom") 432, PySem.Value.str (PySem.Str.ofString "number") 433, PySem.Value.str (PySem.Str.ofString "apart") 434] }) ::
  (nat_lit 162, { cls := PySem.Value.type "tuple", data := PySem.Data.seq #[] }) ::
  (nat_lit 164, { cls := PySem.Value.type "code", data := PySem.Data.fields #[PySem.Value.str (PySem.Str.ofString "_law_right") 417, PySem.Value.str (PySem.Str.ofString "_law_right") 418, PySem.Value.str (PySem.Str.ofString "/claim/cut.py") 419, PySem.Value.int 131 0, PySem.Value.int 1 0, PySem.Value.int 0 0, PySem.Value.int 0 0, PySem.Value.int 3 0, PySem.Value.ref 159, PySem.Value.bool Bool.true, PySem.Value.int 181 0, PySem.Value.ref 160, PySem.Value.none, PySem.Value.ref 161, PySem.Value.ref 162, PySem.Value.ref 163, PySem.Value.int 435 0, PySem.Value.int 131 0, PySem.Value.str (PySem.Str.ofString "/claim/cut.py") 436] }) ::
  (nat_lit 165, { cls := PySem.Value.type "function", data := PySem.Data.func { name := PySem.Str.ofString "_law_right", qualname := PySem.Str.ofString "_law_right", params := (by refine' (?f : ∀ b : Arguments, fA (nth cells 21) = b → Arguments) _ ?h; (case h => conv => lhs; whnf); (case f => exact fun b _ => b)), body := (.stmts (by refine' (?f : ∀ b : List Stmt, fB (nth cells 21) = b → List Stmt) _ ?h; (case h => conv => lhs; whnf); (case f => exact fun b _ => b))), scope := (by refine' (?f : ∀ b : Scope, fS (nth cells 21) = b → Scope) _ ?h; (case h => conv => lhs; whnf); (case f => exact fun b _ => b)), globals := 3, closure := [], defaults := PySem.Value.none, kwdefaults := PySem.Value.none, pyModule := PySem.Value.str (PySem.Str.ofString "law_xm0635_01") 332, code := PySem.Value.ref 164 } }) ::
  (nat_lit 166, { cls := PySem.Value.type "tuple", data := PySem.Data.seq #[] }) ::
  (nat_lit 168, { cls := PySem.Value.type "tuple", data := PySem.Data.seq #[PySem.Value.str (PySem.Str.ofString "script") 441, PySem.Value.str (PySem.Str.ofString "source") 442, PySem.Value.str (PySem.Str.ofString "is_great") 443, PySem.Value.str (PySem.Str.ofString "turn") 444, PySem.Value.str (PySem.Str.ofString "figures") 445, PySem.Value.str (PySem.Str.ofString "size") 446, PySem.Value.str (PySem.Str.ofString "bad") 447] }) ::
  (nat_lit 169, { cls := PySem.Value.type "tuple", data := PySem.Data.seq #[] }) ::
  (nat_lit 171, { cls := PySem.Value.type "code", data := PySem.Data.fields #[PySem.Value.str (PySem.Str.ofString "law") 438, PySem.Value.str (PySem.Str.ofString "law") 439, PySem.Value.str (PySem.Str.ofString "/claim/cut.py") 440, PySem.Value.int 147 0, PySem.Value.int 1 0, PySem.Value.int 0 0, PySem.Value.int 0 0, PySem.Value.int 3 0, PySem.Value.ref 166, PySem.Value.bool Bool.true, PySem.Value.int 181 0, PySem.Value.ref 167, PySem.Value.none, PySem.Value.ref 168, PySem.Value.ref 169, PySem.Value.ref 170, PySem.Value.int 448 0, PySem.Value.int 147 0, PySem.Value.str (PySem.Str.ofString "/claim/cut.py") 449] }) ::
  (nat_lit 172, { cls := PySem.Value.type "function", data := PySem.Data.func { name := PySem.Str.ofString "law", qualname := PySem.Str.ofString "law", params := (by refine' (?f : ∀ b : Arguments, fA (nth cells 22) = b → Arguments) _ ?h; (case h => conv => lhs; whnf); (case f => exact fun b _ => b)), body := (.stmts (by refine' (?f : ∀ b : List Stmt, fB (nth cells 22) = b → List Stmt) _ ?h; (case h => conv => lhs; whnf); (case f => exact fun b _ => b))), scope := (by refine' (?f : ∀ b : Scope, fS (nth cells 22) = b → Scope) _ ?h; (case h => conv => lhs; whnf); (case f => exact fun b _ => b)), globals := 3, closure := [], defaults := PySem.Value.none, kwdefaults := PySem.Value.none, pyModule := PySem.Value.str (PySem.Str.ofString "law_xm0635_01") 332, code := PySem.Value.ref 171 } }) :: []) (@rfl PySem.Str (PySem.Str.ofString "__name__"))
abbrev asL : List PySem.Addr := nat_lit 2 :: nat_lit 3 :: nat_lit 15 :: nat_lit 22 :: nat_lit 24 :: nat_lit 25 :: nat_lit 27 :: nat_lit 28 :: nat_lit 29 :: nat_lit 30 :: nat_lit 31 :: nat_lit 32 :: nat_lit 35 :: nat_lit 42 :: nat_lit 43 :: nat_lit 44 :: nat_lit 54 :: nat_lit 56 :: nat_lit 57 :: nat_lit 59 :: nat_lit 60 :: nat_lit 61 :: nat_lit 62 :: nat_lit 63 :: nat_lit 64 :: nat_lit 65 :: nat_lit 68 :: nat_lit 70 :: nat_lit 71 :: nat_lit 73 :: nat_lit 74 :: nat_lit 75 :: nat_lit 77 :: nat_lit 78 :: nat_lit 80 :: nat_lit 81 :: nat_lit 82 :: nat_lit 84 :: nat_lit 85 :: nat_lit 87 :: nat_lit 88 :: nat_lit 89 :: nat_lit 91 :: nat_lit 92 :: nat_lit 94 :: nat_lit 95 :: nat_lit 96 :: nat_lit 98 :: nat_lit 99 :: nat_lit 101 :: nat_lit 102 :: nat_lit 103 :: nat_lit 105 :: nat_lit 106 :: nat_lit 108 :: nat_lit 109 :: nat_lit 110 :: nat_lit 112 :: nat_lit 113 :: nat_lit 115 :: nat_lit 116 :: nat_lit 117 :: nat_lit 119 :: nat_lit 120 :: nat_lit 122 :: nat_lit 123 :: nat_lit 124 :: nat_lit 126 :: nat_lit 127 :: nat_lit 129 :: nat_lit 130 :: nat_lit 131 :: nat_lit 133 :: nat_lit 134 :: nat_lit 136 :: nat_lit 137 :: nat_lit 138 :: nat_lit 140 :: nat_lit 141 :: nat_lit 143 :: nat_lit 144 :: nat_lit 145 :: nat_lit 147 :: nat_lit 148 :: nat_lit 150 :: nat_lit 151 :: nat_lit 152 :: nat_lit 154 :: nat_lit 155 :: nat_lit 157 :: nat_lit 158 :: nat_lit 159 :: nat_lit 161 :: nat_lit 162 :: nat_lit 164 :: nat_lit 165 :: nat_lit 166 :: nat_lit 168 :: nat_lit 169 :: nat_lit 171 :: nat_lit 172 :: []
theorem asL_ok : ∀ P, asL = (kh P).map (·.1) := fun _ => by kernel_rfl
end Mine
open PySem PySem.W PyProof.Rows PySem.Calls
set_option maxHeartbeats 4000000
namespace Mine
abbrev Obs := List (Addr × Obj)
abbrev MTok := PySem.Tok
abbrev MAddr := PySem.Addr
abbrev MStr := PySem.Str
abbrev TopV (mean : ExcName → Option Value) (mg mb : PySem.Str → Option Value) (h : Heap) : Prop :=
  Top vw (looseW vw []) mean mg mb h
/-- all that a call of a def asks of its caller, and what it hands back -/
abbrev Con (w : World) (mean : ExcName → Option Value) (mg mb : PySem.Str → Option Value) (f : PySem.Addr) (k : Nat) (vs : List Value) (news : Obs)
    (Post : Value → Obs → Prop) (PE : Prop) : Prop :=
  ∀ (dp un : Nat) (gd : Option (List Code)) (cn : PySem.Str) (cs : Scope) (a : PySem.Addr) (ccd : Value) (cl : List (PySem.Str × PySem.Addr)) (outer : List Env) (A₀ : Around) (base h₀ : Heap) (L : PySem.Addr) (m : PySem.Str → Option Value) (s : Shared) (Q E : Value → Shared → Prop),
    Below A₀ base outer h₀ → Fr h₀ L s.heap m → (kh w.params).In h₀ → News h₀ L s.heap news → TopV mean mg mb h₀ → cs.kind = .function →
    dp + k < recursionLimit → un + 8 * k < cLine →
    (∀ v news' h' tk', Post v news' → Fr h₀ L h' m → News h₀ L h' news' → Q v { s with heap := h', toks := tk' }) →
    (∀ e h' g' tk', PE → Fr h₀ L g' m → RaisedSN base g' (envX cn cs L a ccd cl :: outer) e (.ref 44) news h' → Heap.UpToSlots g' h' → E (.ref e) { s with heap := h', toks := tk' }) →
      wpAny (model PySem.Challenge.rw_xm0635_01.row.prog w) (ktrTop dp un gd cn cs L a ccd cl outer) (call (.ref f) vs) Q E s
theorem item_at {prog w A E s} {value slice : PySem.Expr} {l : PySem.Addr} {vs : List Value} {k : Int} {u : PySem.Tok} {v : Value} {Q : Value → Shared → Prop}
    (hl : s.heap.IsList l vs.toArray) (h0 : 0 ≤ k) (hhi : k < 2 ^ 63) (hx : vs[k.toNat]? = some v) (h : Q v s)
    (hs : subscripted slice false (.ref l) (.int k u) = operate [.ref l, .int k u] (getItem (.ref l) (.int k u)) := by with_unfolding_all rfl) :
    wpAny (model prog w) A (subscriptTail value slice (.ref l) (.int k u)) Q E s :=
  tail_any hl.typeIs slot_list_getitem.lookup (wpAny_getItem_list hl h0 hhi (by simpa using hx) h) hs

theorem toNat_sub {x : Nat} {m : Int} (h : 0 ≤ m) : ((x : Int) - m).toNat = x - m.toNat := by
  obtain ⟨k, rfl⟩ := Int.eq_ofNat_of_zero_le h
  exact Int.toNat_sub x k
theorem toNat_sub' {w : Nat} {l : Int} (h : 0 ≤ l) : (l - (w : Int)).toNat = l.toNat - w := by
  obtain ⟨k, rfl⟩ := Int.eq_ofNat_of_zero_le h
  exact Int.toNat_sub k w
theorem toNat_pad {n : Nat} {m : Int} (h : 0 ≤ m) : (m + 1 - (n : Int)).toNat = m.toNat + 1 - n := by
  obtain ⟨k, rfl⟩ := Int.eq_ofNat_of_zero_le h
  exact Int.toNat_sub (k + 1) n
theorem toNat_lt {x : Nat} {b : Int} (h0 : 0 ≤ b) (h1 : b < x) : b.toNat < x := by
  obtain ⟨k, rfl⟩ := Int.eq_ofNat_of_zero_le h0
  exact Int.ofNat_lt.mp h1
theorem toNat_le' {x : Nat} {b : Int} (h0 : 0 ≤ b) (h1 : b ≤ x) : b.toNat ≤ x := by
  obtain ⟨k, rfl⟩ := Int.eq_ofNat_of_zero_le h0
  exact Int.ofNat_le.mp h1
theorem dec_lt {x : Nat} {b : Int} (h0 : 0 ≤ b) (h1 : b < x) : x - (b + 1).toNat < x - b.toNat := by
  obtain ⟨k, rfl⟩ := Int.eq_ofNat_of_zero_le h0
  exact Nat.sub_lt_sub_left (Int.ofNat_lt.mp h1) (Nat.lt_succ_self k)
theorem sub_in {x : Nat} {m : Int} (h0 : 0 ≤ m) (h : m ≤ x) : 0 ≤ (x : Int) - m ∧ (x : Int) - m ≤ x := ⟨Int.sub_nonneg_of_le h, Int.sub_le_self _ h0⟩
/-- a text out of its signs, and back -/
def tx (l : List Nat) : PySem.Str := ⟨l.toArray⟩
def sg (x : PySem.Str) : List Nat := x.cps.toList
theorem tx_sg (x : PySem.Str) : tx (sg x) = x := by cases x; simp [tx, sg]
theorem sg_tx (l : List Nat) : sg (tx l) = l := by simp [tx, sg]
theorem sg_inj {x y : PySem.Str} (h : sg x = sg y) : x = y := by rw [← tx_sg x, ← tx_sg y, h]
theorem sg_len (x : PySem.Str) : (sg x).length = x.length := by simp [sg, PySem.Str.length]
theorem len_tx (l : List Nat) : (tx l).length = l.length := by rw [← sg_len, sg_tx]
theorem sg_append (x y : PySem.Str) : sg (x ++ y) = sg x ++ sg y := by
  show (x.cps ++ y.cps).toList = _
  simp [sg]
theorem len_append (x y : PySem.Str) : (x ++ y).length = x.length + y.length := by
  rw [← sg_len, sg_append, List.length_append, sg_len, sg_len]
theorem sg_from {x : PySem.Str} {i : Int} (h0 : 0 ≤ i) (h2 : i ≤ x.length) : sg (PySem.Txt.slice x (some i) none) = (sg x).drop i.toNat := by
  rw [slice_from_eq h0 h2 rfl]
  show sg (tx (((sg x).drop i.toNat).take (x.length - i).toNat)) = _
  rw [sg_tx, List.take_of_length_le]
  rw [List.length_drop, sg_len, toNat_sub h0]; exact Nat.le_refl _
theorem sg_to {x : PySem.Str} {j : Int} (h0 : 0 ≤ j) (h2 : j ≤ x.length) : sg (PySem.Txt.slice x none (some j)) = (sg x).take j.toNat := by
  rw [beq_iff_eq.mp (slice_closes_toL h0 h2)]
  show sg (tx (((sg x).drop (0 : Int).toNat).take (j - 0).toNat)) = _
  rw [sg_tx]; simp

theorem comma : PySem.Str.ofString "," = tx [44] := by decide +kernel
theorem empty_tx : PySem.Str.ofString "" = tx [] := by decide +kernel
theorem sg_item {x : PySem.Str} {i : Int} (h0 : 0 ≤ i) (h1 : i < x.length) : sg (PySem.Txt.item x i) = [(sg x).getD i.toNat 0] := by
  rw [PyProof.Rows.item_at h0 h1 rfl]
  simp [sg, List.getD_eq_getElem?_getD]
/-- frames as written lists of names -/
theorem lk_cons (y k : PySem.Str) (v : Value) (l : List (PySem.Str × Value)) : List.lookup y ((k, v) :: l) = if y = k then some v else List.lookup y l := by
  rw [List.lookup_cons]
  by_cases h : y = k
  · simp [h]
  · rw [if_neg h, beq_false_of_ne h]
theorem lk_nil (y : PySem.Str) : List.lookup y ([] : List (PySem.Str × Value)) = none := rfl
def FrAg (m m' : PySem.Str → Option Value) : List PySem.Str → Prop
  | [] => True
  | k :: r => m k = m' k ∧ FrAg m m' r
theorem FrAg.cons {m m' : PySem.Str → Option Value} {k : PySem.Str} {r : List PySem.Str} (h : m k = m' k) (h' : FrAg m m' r) : FrAg m m' (k :: r) := ⟨h, h'⟩
theorem FrAg.mem {m m' : PySem.Str → Option Value} : ∀ {ks : List PySem.Str}, FrAg m m' ks → ∀ k ∈ ks, m k = m' k
  | [], _, _, h => nomatch h
  | _ :: _, h, k, hk => by
    rcases List.mem_cons.mp hk with rfl | hk
    · exact h.1
    · exact FrAg.mem h.2 k hk
theorem fr_agree {m m' : PySem.Str → Option Value} (ks : List PySem.Str) (h1 : FrAg m m' ks) (h2 : ∀ y, (∀ k ∈ ks, y ≠ k) → m y = m' y) : ∀ y, m y = m' y := fun y => by
  by_cases h : y ∈ ks
  · exact h1.mem y h
  · exact h2 y fun k hk e => h (e ▸ hk)
theorem fr_agreeX {m m' : PySem.Str → Option Value} {x : PySem.Str} (ks : List PySem.Str) (h1 : FrAg m m' ks) (h2 : ∀ y, y ≠ x → (∀ k ∈ ks, y ≠ k) → m y = m' y) : ∀ y, y ≠ x → m y = m' y := fun y hx => by
  by_cases h : y ∈ ks
  · exact h1.mem y h
  · exact h2 y hx fun k hk e => h (e ▸ hk)
theorem Fr_as {h₀ h : Heap} {L : PySem.Addr} {m m' : PySem.Str → Option Value} (F : Fr h₀ L h m) (e : ∀ y, m y = m' y) : Fr h₀ L h m' := (funext e : m = m') ▸ F
theorem News_sub {h₀ h : Heap} {L : PySem.Addr} {n n' : Obs} (N : News h₀ L h n) (e : ∀ p ∈ n', p ∈ n) : News h₀ L h n' := fun p hp => N p (e p hp)

section
variable {prog : Program} {w : World} {A : Around} {E : Value → Shared → Prop} {Q : Flow → Shared → Prop} {s : Shared} {env : Env} {h₀ : Heap} {L : PySem.Addr}
def WEnd {σ : Type} (h₀ : Heap) (L : PySem.Addr) (s : Shared) (f : σ → PySem.Str → Option Value) (led : σ → Obs) (P : σ → Prop) (μ : σ → Nat) (c : σ) (s₂ : Shared) : Prop :=
  ∃ c' h' tk, s₂ = { s with heap := h', toks := tk } ∧ Fr h₀ L h' (f c') ∧ News h₀ L h' (led c') ∧ P c' ∧ μ c' < μ c
def WPost {σ : Type} (h₀ : Heap) (L : PySem.Addr) (s : Shared) (f : σ → PySem.Str → Option Value) (led : σ → Obs) (P : σ → Prop) (μ : σ → Nat) (Q : Flow → Shared → Prop) (c : σ) (fl : Flow) (s₂ : Shared) : Prop :=
  match fl with
  | .ret v => Q (.ret v) s₂
  | .brk => Q .next s₂
  | _ => WEnd h₀ L s f led P μ c s₂
theorem while_own {test : PySem.Expr} {body : List Stmt} {pos : Pos} {σ : Type} (f : σ → PySem.Str → Option Value) (led : σ → Obs) (P : σ → Prop) (μ : σ → Nat) (c₀ : σ) {m₀ : PySem.Str → Option Value} {news : Obs}
    (F : Fr h₀ L s.heap m₀) (N : News h₀ L s.heap news) (e₀ : ∀ y, m₀ y = f c₀ y) (n₀ : ∀ p ∈ led c₀, p ∈ news) (hp : P c₀)
    (turn : ∀ c h tk, P c → Fr h₀ L h (f c) → News h₀ L h (led c) →
      wpAny (model prog w) A (isTrue test env (eval test env)) (fun b s₂ => if b = true then wpAny (model prog w) A (execs body env) (WPost h₀ L s f led P μ Q c) E s₂ else Q .next s₂) E { s with heap := h, toks := tk })
    (hE : PassesOwn (model prog w) A env E) :
    wpAny (model prog w) A (exec (.While test body [] pos) env) Q E s := by
  refine While_inv2 (fun n m nx => ∃ c, m = f c ∧ nx = led c ∧ μ c = n ∧ P c) (Fr_as F e₀) (News_sub N n₀) ⟨c₀, rfl, rfl, rfl, hp⟩ ?_ hE
  rintro n m₁ nx h tk F₁ N₁ ⟨c, rfl, rfl, rfl, hc⟩
  refine wpAny_mono (turn c h tk hc F₁ N₁) (fun b s₂ p => ?_) fun _ _ x => x
  cases b with
  | false => simpa using p
  | true =>
    simp only [if_true] at p ⊢
    refine wpAny_mono p (fun fl s₃ q => ?_) fun _ _ x => x
    cases fl with
    | ret v => exact q
    | brk => exact q
    | next =>
      obtain ⟨c', h', tk', rfl, F', N', hp', hm⟩ := q
      exact ⟨h', tk', f c', led c', μ c', rfl, F', N', hm, c', rfl, rfl, rfl, hp'⟩
    | cont =>
      obtain ⟨c', h', tk', rfl, F', N', hp', hm⟩ := q
      exact ⟨h', tk', f c', led c', μ c', rfl, F', N', hm, c', rfl, rfl, rfl, hp'⟩
theorem WEnd.intro {σ : Type} {f : σ → PySem.Str → Option Value} {led : σ → Obs} {P : σ → Prop} {μ : σ → Nat} {c : σ} {h' : Heap} {tk : Nat} {m' : PySem.Str → Option Value} {news' : Obs} (c' : σ)
    (F : Fr h₀ L h' m') (N : News h₀ L h' news') (e : ∀ y, m' y = f c' y) (n : ∀ p ∈ led c', p ∈ news') (hp : P c') (hm : μ c' < μ c) : WEnd h₀ L s f led P μ c { s with heap := h', toks := tk } :=
  ⟨c', h', tk, rfl, Fr_as F e, News_sub N n, hp, hm⟩
end

section
variable {prog : Program} {w : World} {A : Around} {E : Value → Shared → Prop} {Q : Flow → Shared → Prop} {s : Shared} {env : Env} {h₀ : Heap} {x : PySem.Str} {body : List Stmt}
def REnd {σ : Type} (h₀ : Heap) (L : PySem.Addr) (s : Shared) (x : PySem.Str) (f : σ → PySem.Str → Option Value) (led : σ → Obs) (own : Obs) (P : σ → Prop) (s₂ : Shared) : Prop :=
  ∃ c' h' tk m', s₂ = { s with heap := h', toks := tk } ∧ Fr h₀ L h' m' ∧ (∀ y, y ≠ x → m' y = f c' y) ∧ News h₀ L h' (led c' ++ own) ∧ P c'
def RPost {σ : Type} (h₀ : Heap) (L : PySem.Addr) (s : Shared) (x : PySem.Str) (f : σ → PySem.Str → Option Value) (led : σ → Obs) (own : Obs) (P : σ → Prop) (Q : Flow → Shared → Prop) (fl : Flow) (s₂ : Shared) : Prop :=
  match fl with
  | .ret v => Q (.ret v) s₂
  | .brk => Q .next s₂
  | _ => REnd h₀ L s x f led own P s₂
theorem REnd.intro {σ : Type} {L : PySem.Addr} {f : σ → PySem.Str → Option Value} {led : σ → Obs} {own : Obs} {P : σ → Prop} {h' : Heap} {tk : Nat} {m' : PySem.Str → Option Value} {news' : Obs} (c' : σ)
    (F : Fr h₀ L h' m') (N : News h₀ L h' news') (e : ∀ y, y ≠ x → m' y = f c' y) (n : ∀ p ∈ led c' ++ own, p ∈ news') (hp : P c') : REnd h₀ L s x f led own P { s with heap := h', toks := tk } :=
  ⟨c', h', tk, m', rfl, F, e, News_sub N n, hp⟩
theorem range_own {r : PySem.Addr} {b₀ : Int} {t₀ u₀ v₀ : PySem.Tok} {n : Nat} {m₀ : PySem.Str → Option Value} {news : Obs} {σ : Type} (f : σ → PySem.Str → Option Value) (led : σ → Obs) (P : Nat → σ → Prop) (adr : List PySem.Addr) (c₀ : σ)
    (hh : A.handled = none) (hr : IsRange s.heap r 0 b₀ 1 t₀ u₀ v₀) (hsmall : Builtin.Range.small 0 b₀ 1 = true) (hn : Builtin.Range.rangeSize 0 b₀ 1 = (n : Int))
    (F : Fr h₀ env.locals s.heap m₀) (N : News h₀ env.locals s.heap news) (e₀ : ∀ y, y ≠ x → m₀ y = f c₀ y) (n₀ : ∀ p ∈ led c₀, p ∈ news) (hadr : ∀ c, (led c).map (·.1) = adr) (hp : P 0 c₀)
    (turn : ∀ i c h tk t own, i < n → P i c → OwnOff own adr → Fr h₀ env.locals h (fun y => if y = x then some (.int i t) else f c y) → News h₀ env.locals h (led c ++ own) →
      wpAny (model prog w) A (execs body env) (RPost h₀ env.locals { s with heap := h, toks := tk } x f led own (P (i + 1)) Q) E { s with heap := h, toks := tk })
    (done : ∀ u c h tk, P n c → Fr h₀ env.locals h (fun y => if y = x then u else f c y) → News h₀ env.locals h (led c) → Q .next { s with heap := h, toks := tk }) :
    wpAny (model prog w) A (pyIter (.ref r)) (fun it s₂ => LoopAtV prog w A h₀ env x body Q E it s₂) E s := by
  have ef : ∀ (v : Option Value) (m : PySem.Str → Option Value) c, (∀ y, y ≠ x → m y = f c y) → ∀ y, (if y = x then v else m y) = if y = x then v else f c y := by
    intro v m c h y
    by_cases hy : y = x
    · rw [if_pos hy, if_pos hy]
    · rw [if_neg hy, if_neg hy, h y hy]
  refine kpr_invN (n := n) (news := led c₀) (fun i m nx => ∃ c, nx = led c ∧ P i c ∧ ∀ y, y ≠ x → m y = f c y) hh hr hsmall hn F (News_sub N n₀) ⟨c₀, rfl, hp, e₀⟩ ?_ ?_
  · rintro i k t m₁ nx h tk own hk hoff ⟨c, rfl, hP, he⟩ F₁ N₁
    have hi : i < n := by
      have := (List.getElem?_eq_some_iff.mp hk).1
      rwa [rangeKs_length] at this
    have hki : k = (i : Int) := by
      have e : (rangeKs 0 n)[i]? = some ((0 : Int) + (i : Int)) := by simp [rangeKs, hi]
      rw [e] at hk
      have := Option.some.inj hk
      omega
    subst hki
    rw [hadr] at hoff ⊢
    refine wpAny_mono (turn i c h tk t own hi hP hoff (Fr_as F₁ (ef _ _ _ he)) N₁) (fun fl s₂ q => ?_) fun _ _ x => x
    have fin : REnd h₀ env.locals { s with heap := h, toks := tk } x f led own (P (i + 1)) s₂ → InvEndN h₀ env.locals (fun m nx => ∃ c, nx = led c ∧ P (i + 1) c ∧ ∀ y, y ≠ x → m y = f c y) own adr { s with heap := h, toks := tk } s₂ := by
      rintro ⟨c', h', tk', m', rfl, F', e', N', hp'⟩
      exact ⟨h', tk', m', led c' ++ own, led c', rfl, F', N', fun p hp => List.mem_append_left _ hp, fun p hp => List.mem_append_right _ hp, hadr c', c', rfl, hp', e'⟩
    cases fl with
    | ret v => exact q
    | brk => exact q
    | next => exact fin q
    | cont => exact fin q
  · rintro m₁ nx h tk ⟨c, rfl, hP, he⟩ F₁ N₁
    rw [rangeKs_length] at hP
    refine done (m₁ x) c h tk hP (Fr_as F₁ fun y => ?_) N₁
    by_cases hy : y = x
    · rw [if_pos hy, hy]
    · rw [if_neg hy, he y hy]
end
/-- an object of the ledger, and what else it bears -/
inductive Pick (a : PySem.Addr) (o : Obj) : Obs → Obs → Prop
  | head {r : Obs} (h : ∀ p ∈ r, p.1 ≠ a) : Pick a o ((a, o) :: r) r
  | tail {p : PySem.Addr × Obj} {r r' : Obs} (h : p.1 ≠ a) (h' : Pick a o r r') : Pick a o (p :: r) (p :: r')
theorem Pick.sub {a : PySem.Addr} {o : Obj} : ∀ {n r : Obs}, Pick a o n r → ∀ p ∈ (a, o) :: r, p ∈ n
  | _, _, .head _ => fun _ h => h
  | _, _, .tail _ h' => fun p hp => by
    rcases List.mem_cons.mp hp with rfl | hp
    · exact .tail _ (h'.sub _ (.head _))
    · rcases List.mem_cons.mp hp with rfl | hp
      · exact .head _
      · exact .tail _ (h'.sub _ (.tail _ hp))
theorem Pick.ne {a : PySem.Addr} {o : Obj} : ∀ {n r : Obs}, Pick a o n r → ∀ p ∈ r, p.1 ≠ a
  | _, _, .head h => h
  | _, _, .tail h h' => fun p hp => by
    rcases List.mem_cons.mp hp with rfl | hp
    · exact h
    · exact h'.ne p hp
theorem gen_toks {α : Type} {M : Model} {A : Around} {t : Sem α} {Q : α → Shared → Prop} {E : Value → Shared → Prop} {h : Heap} {g : Array GenState} {d : Drawn} {tk : Nat} {os : OsState} (hp : 0 < tk) (k : ∀ tk', 0 < tk' → wpAny M A t Q E ⟨h, g, d, tk', os⟩) : wpAny M A t Q E ⟨h, g, d, tk, os⟩ := k tk hp
/-- a cut behind one statement: what it leaves, over a datum -/
def CPost {σ : Type} (g : Heap) (L : PySem.Addr) (s : Shared) (f : σ → PySem.Str → Option Value) (led : σ → Obs) (P : σ → Prop) (fl : Flow) (s' : Shared) : Prop :=
  fl = .next ∧ ∃ c h' tk', s' = { s with heap := h', toks := tk' } ∧ Fr g L h' (f c) ∧ News g L h' (led c) ∧ P c
theorem CPost.intro {σ : Type} {g : Heap} {L : PySem.Addr} {s : Shared} {f : σ → PySem.Str → Option Value} {led : σ → Obs} {P : σ → Prop} {h' : Heap} {tk' : Nat} {m' : PySem.Str → Option Value} {news' : Obs} (c : σ)
    (F : Fr g L h' m') (N : News g L h' news') (e : ∀ y, m' y = f c y) (n : ∀ p ∈ led c, p ∈ news') (hp : P c) : CPost g L s f led P .next { s with heap := h', toks := tk' } :=
  ⟨rfl, c, h', tk', rfl, Fr_as F e, News_sub N n, hp⟩
theorem cut_own {M : Model} {Ar : Around} {env : Env} {st : Stmt} {rest : List Stmt} {Q : Flow → Shared → Prop} {E : Value → Shared → Prop} {s : Shared} {g : Heap} {L : PySem.Addr} {σ : Type} (f : σ → PySem.Str → Option Value) (led : σ → Obs) (P : σ → Prop) {m : PySem.Str → Option Value} {news : Obs} (zF0 : Fr g L s.heap m) (zN0 : News g L s.heap news)
    (h1 : wpAny M Ar (exec st env) (fun fl s' => CPost g L s f led P fl s') E s)
    (h2 : ∀ c h' tk', P c → Fr g L h' (f c) → News g L h' (led c) → wpAny M Ar (execs rest env) Q E { s with heap := h', toks := tk' }) : wpAny M Ar (execs (st :: rest) env) Q E s := by
  refine wpAny_execs_cons (wpAny_mono h1 (fun fl s' q => ?_) fun _ _ x => x)
  obtain ⟨rfl, c, h', tk', rfl, F', N', hp⟩ := q
  exact h2 c h' tk' hp F' N'
theorem fa2 {α β : Type} {P : α × β → Prop} (h : ∀ a b, P (a, b)) : ∀ c, P c := fun c => h c.1 c.2
theorem fa4 {α β γ δ : Type} {P : α × β × γ × δ → Prop} (h : ∀ a b c d, P (a, b, c, d)) : ∀ c, P c := fun c => h c.1 c.2.1 c.2.2.1 c.2.2.2
theorem fa7 {α β γ δ ε ζ η : Type} {P : α × β × γ × δ × ε × ζ × η → Prop} (h : ∀ a b c d e f g, P (a, b, c, d, e, f, g)) : ∀ c, P c := fun c => h c.1 c.2.1 c.2.2.1 c.2.2.2.1 c.2.2.2.2.1 c.2.2.2.2.2.1 c.2.2.2.2.2.2
theorem fa8 {α β γ δ ε ζ η θ : Type} {P : α × β × γ × δ × ε × ζ × η × θ → Prop} (h : ∀ a b c d e f g i, P (a, b, c, d, e, f, g, i)) : ∀ c, P c := fun c => h c.1 c.2.1 c.2.2.1 c.2.2.2.1 c.2.2.2.2.1 c.2.2.2.2.2.1 c.2.2.2.2.2.2.1 c.2.2.2.2.2.2.2
theorem lo_of {c x : Int} (h : 0 ≤ x) (hc : c ≤ 0) : c ≤ x := Int.le_trans hc h
theorem hi_of1 {x k c : Int} (h : x < k) (hc : k ≤ c + 1) : x ≤ c := by omega
theorem hi_of2 {x k c : Int} (h : x ≤ k) (hc : k ≤ c) : x ≤ c := Int.le_trans h hc
theorem hi_of3 {x k c : Int} (h : x < k) (hc : k ≤ c) : x < c := Int.lt_of_lt_of_le h hc
theorem hi_of4 {x k c : Int} (h : x ≤ k) (hc : k < c) : x < c := Int.lt_of_le_of_lt h hc
theorem lo_lt {x c : Int} (h : 0 ≤ x) (hc : c < 0) : c < x := Int.lt_of_lt_of_le hc h
theorem lo_pos {x c : Int} (h : 0 < x) (hc : c ≤ 1) : c ≤ x := by omega
theorem nhi_of1 {x k c : Nat} (h : x < k) (hc : k ≤ c + 1) : x ≤ c := by omega
theorem nhi_of2 {x k c : Nat} (h : x ≤ k) (hc : k ≤ c) : x ≤ c := Nat.le_trans h hc
theorem nhi_of3 {x k c : Nat} (h : x < k) (hc : k ≤ c) : x < c := Nat.lt_of_lt_of_le h hc
theorem nhi_of4 {x k c : Nat} (h : x ≤ k) (hc : k < c) : x < c := Nat.lt_of_le_of_lt h hc
theorem room0 {d b l : Nat} (h : d + b < l) : d < l := by omega
theorem room1 {d a b l : Nat} (h : d + b < l) (hc : a ≤ b) : d + a < l := by omega
theorem room2 {d a c b l : Nat} (h : d + b < l) (hc : a + c ≤ b) : d + a + c < l := by omega
end Mine
open Mine
local macro_rules | `(tactic| walk_at $s:str) => `(tactic| k_extra $s)
local macro_rules | `(tactic| omega) => `(tactic| first | with_reducible assumption | decide | k_extra "om")
local macro_rules | `(tactic| ktr_unf) => `(tactic| k_extra "unf")
local macro_rules | `(tactic| tb_start) => `(tactic| k_extra "tb1")
local macro_rules | `(tactic| tb_rel) => `(tactic| k_extra "tb2")
local macro_rules | `(tactic| kwd_rel) => `(tactic| k_extra "pick")
local macro_rules | `(tactic| ktr_units) => `(tactic| k_extra "units")
local macro_rules | `(tactic| k_all) => `(tactic| assumption)
namespace Mine
theorem take_con (w : World) (mean : ExcName → Option Value) (mg mb : PySem.Str → Option Value) (src : PySem.Addr) (a b top : Int) (ta tb t : PySem.Tok) (n : Nat) (rest : Obs)
    (ha : 0 ≤ a) (hb : 0 ≤ b) (hb' : b < 2147483647) (ht : 0 < top) (ht' : top < 1073741824) (hr : ∀ p ∈ rest, p.1 ≠ src) :
    Con w mean mg mb 116 1 [.ref src, .int top t] ((src, listOf #[.int a ta, .int b tb] n) :: rest)
      (fun v news' => ∃ r tr a' b' ta' tb' n', v = .int r tr ∧ 0 ≤ r ∧ r < top ∧ 0 ≤ a' ∧ 0 ≤ b' ∧ b' < 2147483647 ∧ news' = (src, listOf #[.int a' ta', .int b' tb'] n') :: rest) False := by
  have kf : kh w.params = kh w.params ∧ PySem.Challenge.rw_xm0635_01 = PySem.Challenge.rw_xm0635_01 := by k_fill; exact ⟨rfl, rfl⟩
  clear kf
  w_top off
  k_with_none
  k_with "subscriptTail Name Constant ref int" => (k_here; (with_reducible show wpAny _ _ (subscriptTail _ _ (Value.ref _) (Value.int _ _)) _ _ _); k_dflt (refine' item_at (IsL.isList (News.get (by k_asm) (by k_mem))) (by decide) (by decide) (by rfl) ?_ (by with_unfolding_all rfl); k_whole))
  k_with "binaryOp FloorDiv int int" => (refine PyProof.Rows.floordiv_int (by omega) ?_)
  k_with "binaryOp Mod int int" => (refine PyProof.Rows.mod_int (by omega) ?_)
  k_with "unf" => repeat' (first | ((fail_if_success (first | (with_reducible show wpAny _ _ (exec (Stmt.While _ _ _ _) _) _ _ _) | (with_reducible show WEnd _ _ _ _ _ _ _ _ _) | (with_reducible show REnd _ _ _ _ _ _ _ _ _) | (with_reducible show Mine.WDone _ _ _ _ _ _ _ _) | (with_reducible show Mine.CPost _ _ _ _ _ _ _ _) | (with_reducible show wpAny _ _ (pyIter _) (fun it s₂ => LoopAtV _ _ _ _ _ _ _ _ _ it s₂) _ _))); first | (k_unfold; (try dsimp only)) | (k_end; wrow_close) | walk1 | (dsimp only; walk1) | (leave1; walk_say "STEP leave1"; try dsimp only)) | fail "no step")
  k_with "WPost" => dsimp only [WPost]
  k_with "RPost" => dsimp only [RPost]
  k_with "exec For Name Call cons nil" => (k_here; (rename Fr _ _ _ _ => lF'); (with_unfolding_all refine' For_invVF lF' (by exact rfl) (by exact rfl) ?_; k_whole))
  k_with "exec For Name Subscript cons nil" => (k_here; (rename Fr _ _ _ _ => lF'); (with_unfolding_all refine' For_invVF lF' (by exact rfl) (by exact rfl) ?_; k_whole))
  k_with "tb1" => (repeat' (first | exact trivial | refine FrAg.cons (by rfl) ?_))
  k_with "tb2" => first | (intro y hy; simp only [List.forall_mem_cons] at hy; simp [lk_cons, hy]; done) | (intro y hx hy; simp only [List.forall_mem_cons] at hy; simp [lk_cons, hx, hy]; done)
  k_with "pick" => first | exact Pick.head (by k_all) | exact Pick.tail (by k_ne) (by kwd_rel)
  k_with "units" => (have hcL9 := cLine_is; (try simp only [units_under_make, units_in1, units_deeper, Around.mark_units, units_caller] at *); (try dsimp only [ktrTop] at *); omega)
  k_with "om" => (with_reducible (first | (show (_ : Int) ≤ _; first | exact lo_of (by first | assumption | exact And.left (by assumption)) (by decide) | exact hi_of1 (by first | assumption | exact And.right (by assumption)) (by decide) | exact hi_of2 (by first | assumption | exact And.right (by assumption)) (by decide) | exact lo_pos (by assumption) (by decide) | exact And.left (by assumption)) | (show (_ : Int) < _; first | exact And.right (by assumption) | exact hi_of3 (by first | assumption | exact And.right (by assumption)) (by decide) | exact hi_of4 (by first | assumption | exact And.right (by assumption)) (by decide) | exact lo_lt (by first | assumption | exact And.left (by assumption)) (by decide)) | (show (_ : Nat) < _; first | exact room2 (by assumption) (by decide) | exact room1 (by assumption) (by decide) | exact room0 (by assumption) | exact nhi_of3 (by assumption) (by decide) | exact nhi_of4 (by assumption) (by decide)) | (show (_ : Nat) ≤ _; first | exact nhi_of2 (by assumption) (by decide) | exact nhi_of1 (by assumption) (by decide)) | (show @Ne Nat _ _; first | exact Ne.symm (by assumption) | exact Nat.ne_of_gt (by first | assumption | exact And.left (by assumption) | exact And.left (And.right (by assumption)) | exact And.left (And.right (And.right (by assumption))) | exact And.left (And.right (And.right (And.right (by assumption))))) | exact Nat.ne_of_lt (by first | assumption | exact And.left (by assumption) | exact And.left (And.right (by assumption)) | exact And.left (And.right (And.right (by assumption))) | exact And.left (And.right (And.right (And.right (by assumption)))))) | (show _ ∧ _; exact And.intro (by omega) (by omega))))
  intro dp un gd cn cs ad ccd cl outer A₀ base h₀ L m s Q E B F X N T hk hd hu hret hexc
  refine wpAny_call ?_
  k_dflt cell_enter
  k_steps
  · (rename Fr h₀ _ _ _ => zF); (rename News h₀ _ _ _ => zN); exact hret _ _ _ _ ⟨_, _, _, _, _, _, _, rfl, Int.fmod_nonneg_of_pos _ ht, Int.fmod_lt_of_pos _ ht, Int.fdiv_nonneg ha (by omega), hb, hb', rfl⟩ zF zN
  · (rename Fr h₀ _ _ _ => zF); (rename News h₀ _ _ _ => zN); exact hret _ _ _ _ ⟨_, _, _, _, _, _, _, rfl, Int.fmod_nonneg_of_pos _ ht, Int.fmod_lt_of_pos _ ht, ha, Int.fmod_nonneg_of_pos _ (by decide), Int.fmod_lt_of_pos _ (by decide), rfl⟩ zF zN

section
variable {w : World} {mean : ExcName → Option Value} {mg mb : PySem.Str → Option Value} {dp un : Nat} {gd : Option (List Code)} {cn : PySem.Str} {cs : Scope} {ad : PySem.Addr} {ccd : Value} {cl : List (PySem.Str × PySem.Addr)} {outer : List Env} {A₀ : Around} {base h₀ : Heap} {L : PySem.Addr} {m : PySem.Str → Option Value} {s : Shared} {Q E : Value → Shared → Prop}
theorem take_use {src : PySem.Addr} {a b top : Int} {ta tb t : PySem.Tok} {n : Nat} {news rest : Obs}
    (B : Below A₀ base outer h₀) (F : Fr h₀ L s.heap m) (X : (kh w.params).In h₀) (N : News h₀ L s.heap news) (T : TopV mean mg mb h₀) (hk : cs.kind = .function)
    (pk : Pick src (listOf #[.int a ta, .int b tb] n) news rest)
    (hd : dp + 1 < recursionLimit) (hu : un + 8 * 1 < cLine)
    (ha : 0 ≤ a) (hb : 0 ≤ b) (hb' : b < 2147483647) (ht : 0 < top) (ht' : top < 1073741824)
    (ret : ∀ (r : Int) (tr : PySem.Tok) (a' b' : Int) (ta' tb' : PySem.Tok) (n' : Nat) (h' : Heap) (tk' : Nat), 0 ≤ r → r < top → 0 ≤ a' → 0 ≤ b' → b' < 2147483647 → Fr h₀ L h' m → News h₀ L h' ((src, listOf #[.int a' ta', .int b' tb'] n') :: rest) → Q (.int r tr) { s with heap := h', toks := tk' }) :
    wpAny (model PySem.Challenge.rw_xm0635_01.row.prog w) (ktrTop dp un gd cn cs L ad ccd cl outer) (call (.ref 116) [.ref src, .int top t]) Q E s :=
  take_con w mean mg mb src a b top ta tb t n rest ha hb hb' ht ht' pk.ne dp un gd cn cs ad ccd cl outer A₀ base h₀ L m s Q E B F X (News_sub N pk.sub) T hk hd hu
    (by
      rintro v news' h' tk' ⟨r, tr, a', b', ta', tb', n', rfl, h1, h2, h3, h4, h5, rfl⟩ F' N'
      exact ret r tr a' b' ta' tb' n' h' tk' h1 h2 h3 h4 h5 F' N')
    (fun _ _ _ _ h => h.elim)
end
end Mine
namespace Mine
/-- the figures in pieces of k -/
def grp (k : Nat) (l : List Nat) : List Nat :=
  if 0 < k ∧ k < l.length then grp k (l.take (l.length - k)) ++ 44 :: l.drop (l.length - k) else l
termination_by l.length
decreasing_by rw [List.length_take]; omega
theorem grp_step {k : Nat} {l : List Nat} (h0 : 0 < k) (h : k < l.length) : grp k l = grp k (l.take (l.length - k)) ++ 44 :: l.drop (l.length - k) := by
  rw [grp, if_pos ⟨h0, h⟩]
theorem grp_stop {k : Nat} {l : List Nat} (h : ¬ (0 < k ∧ k < l.length)) : grp k l = l := by
  rw [grp, if_neg h]
theorem grp_room {d s f : Nat} (h0 : 0 < s) (h : s < d) (hf : f + 2 * d ≤ 2000) : 0 + 1 + s + f + 2 * (d - s) ≤ 2000 := by omega
theorem grouped_con (w : World) (mean : ExcName → Option Value) (mg mb : PySem.Str → Option Value) (x : PySem.Str) (size : Int) (tx ts : PySem.Tok) (rest : Obs)
    (hs : 0 ≤ size) (hx : x.length ≤ 1000) :
    Con w mean mg mb 95 1 [.str x tx, .int size ts] rest
      (fun v news' => ∃ y t, v = .str y t ∧ sg y = grp size.toNat (sg x) ∧ news' = rest) False := by
  have kf : kh w.params = kh w.params ∧ PySem.Challenge.rw_xm0635_01 = PySem.Challenge.rw_xm0635_01 := by k_fill; exact ⟨rfl, rfl⟩
  clear kf
  w_top off
  k_with_none
  k_with "subscriptTail Name Constant ref int" => (k_here; (with_reducible show wpAny _ _ (subscriptTail _ _ (Value.ref _) (Value.int _ _)) _ _ _); k_dflt (refine' item_at (IsL.isList (News.get (by k_asm) (by k_mem))) (by decide) (by decide) (by rfl) ?_ (by with_unfolding_all rfl); k_whole))
  k_with "binaryOp FloorDiv int int" => (refine PyProof.Rows.floordiv_int (by omega) ?_)
  k_with "binaryOp Mod int int" => (refine PyProof.Rows.mod_int (by omega) ?_)
  k_with "unf" => repeat' (first | ((fail_if_success (first | (with_reducible show wpAny _ _ (exec (Stmt.While _ _ _ _) _) _ _ _) | (with_reducible show WEnd _ _ _ _ _ _ _ _ _) | (with_reducible show REnd _ _ _ _ _ _ _ _ _) | (with_reducible show Mine.WDone _ _ _ _ _ _ _ _) | (with_reducible show Mine.CPost _ _ _ _ _ _ _ _) | (with_reducible show wpAny _ _ (pyIter _) (fun it s₂ => LoopAtV _ _ _ _ _ _ _ _ _ it s₂) _ _))); first | (k_unfold; (try dsimp only)) | (k_end; wrow_close) | walk1 | (dsimp only; walk1) | (leave1; walk_say "STEP leave1"; try dsimp only)) | fail "no step")
  k_with "WPost" => dsimp only [WPost]
  k_with "RPost" => dsimp only [RPost]
  k_with "exec For Name Call cons nil" => (k_here; (rename Fr _ _ _ _ => lF'); (with_unfolding_all refine' For_invVF lF' (by exact rfl) (by exact rfl) ?_; k_whole))
  k_with "exec For Name Subscript cons nil" => (k_here; (rename Fr _ _ _ _ => lF'); (with_unfolding_all refine' For_invVF lF' (by exact rfl) (by exact rfl) ?_; k_whole))
  k_with "tb1" => (repeat' (first | exact trivial | refine FrAg.cons (by rfl) ?_))
  k_with "tb2" => first | (intro y hy; simp only [List.forall_mem_cons] at hy; simp [lk_cons, hy]; done) | (intro y hx hy; simp only [List.forall_mem_cons] at hy; simp [lk_cons, hx, hy]; done)
  k_with "pick" => first | exact Pick.head (by k_all) | exact Pick.tail (by k_ne) (by kwd_rel)
  k_with "units" => (have hcL9 := cLine_is; (try simp only [units_under_make, units_in1, units_deeper, Around.mark_units, units_caller] at *); (try dsimp only [ktrTop] at *); omega)
  k_with "om" => (with_reducible (first | (show (_ : Int) ≤ _; first | exact lo_of (by first | assumption | exact And.left (by assumption)) (by decide) | exact hi_of1 (by first | assumption | exact And.right (by assumption)) (by decide) | exact hi_of2 (by first | assumption | exact And.right (by assumption)) (by decide) | exact lo_pos (by assumption) (by decide) | exact And.left (by assumption)) | (show (_ : Int) < _; first | exact And.right (by assumption) | exact hi_of3 (by first | assumption | exact And.right (by assumption)) (by decide) | exact hi_of4 (by first | assumption | exact And.right (by assumption)) (by decide) | exact lo_lt (by first | assumption | exact And.left (by assumption)) (by decide)) | (show (_ : Nat) < _; first | exact room2 (by assumption) (by decide) | exact room1 (by assumption) (by decide) | exact room0 (by assumption) | exact nhi_of3 (by assumption) (by decide) | exact nhi_of4 (by assumption) (by decide)) | (show (_ : Nat) ≤ _; first | exact nhi_of2 (by assumption) (by decide) | exact nhi_of1 (by assumption) (by decide)) | (show @Ne Nat _ _; first | exact Ne.symm (by assumption) | exact Nat.ne_of_gt (by first | assumption | exact And.left (by assumption) | exact And.left (And.right (by assumption)) | exact And.left (And.right (And.right (by assumption))) | exact And.left (And.right (And.right (And.right (by assumption))))) | exact Nat.ne_of_lt (by first | assumption | exact And.left (by assumption) | exact And.left (And.right (by assumption)) | exact And.left (And.right (And.right (by assumption))) | exact And.left (And.right (And.right (And.right (by assumption)))))) | (show _ ∧ _; exact And.intro (by omega) (by omega))))
  intro dp un gd cn cs ad ccd cl outer A₀ base h₀ L m s Q E B F X N T hk hd hu hret hexc
  refine wpAny_call ?_
  k_dflt cell_enter
  (rename Fr _ _ _ _ => lF); replace lF : Fr _ _ _ (fun y => List.lookup y [(PySem.Str.ofString "size", .int size ts), (PySem.Str.ofString "digits", .str x tx)]) := lF
  ktr_unf
  · (rename Fr h₀ _ _ _ => zF); (rename News h₀ _ _ _ => zN); (rename size = 0 => h0)
    exact hret _ _ _ _ ⟨_, _, rfl, by rw [grp_stop (by omega)], rfl⟩ zF zN
  · (rename Fr _ _ _ _ => lF); (rename News _ _ _ _ => lN); (rename size ≠ 0 => h0)
    refine' while_own (σ := PySem.Str × PySem.Str × PySem.Tok × PySem.Tok) (fun c y => List.lookup y [(PySem.Str.ofString "digits", .str c.1 c.2.2.1), (PySem.Str.ofString "found", .str c.2.1 c.2.2.2), (PySem.Str.ofString "size", .int size ts)]) (fun _ => rest)
      (fun c => grp size.toNat (sg c.1) ++ sg c.2.1 = grp size.toNat (sg x) ∧ c.1.length ≤ 1000 ∧ c.2.1.length + 2 * c.1.length ≤ 2000) (fun c => c.1.length) (x, PySem.Str.ofString "", tx, _) lF lN (fr_agree [PySem.Str.ofString "digits", PySem.Str.ofString "found", PySem.Str.ofString "size"] ?z1 ?z2) ?z3 ?zp ?zt ?zE
    case z1 => tb_start
    case z2 => tb_rel
    case z3 => exact fun _ h => h
    case zp => refine ⟨by rw [empty_tx, sg_tx, List.append_nil], hx, ?_⟩; show (PySem.Str.ofString "").length + 2 * x.length ≤ 2000; rw [empty_tx, len_tx, List.length_nil]; omega
    case zE => passes_own
    case zt =>
      refine fa4 ?_
      intro d f td tf h tk hPP F1 N1
      dsimp only at F1 N1 hPP ⊢
      have hP1 := hPP.1
      have hP2 := hPP.2.1
      have hP3 := hPP.2.2
      clear hPP
      clear lF lN
      ktr_unf
      · (rename Fr _ _ _ _ => lF); (rename News _ _ _ _ => lN); (rename size < (d.length : Int) => hlt)
        refine' WEnd.intro (PySem.Txt.slice d none (some (d.length - size)), PySem.Str.ofString "," ++ PySem.Txt.slice d (some (d.length - size)) none ++ f, _, _) lF lN (fr_agree [PySem.Str.ofString "digits", PySem.Str.ofString "found", PySem.Str.ofString "size"] ?z1 ?z2) ?z3 ?zp ?zm
        case z1 => tb_start
        case z2 => tb_rel
        case z3 => exact fun _ h => h
        case zp =>
          dsimp only
          have hin := sub_in hs (Int.le_of_lt hlt)
          have hst := toNat_lt hs hlt
          have hsp : 0 < size.toNat := by omega
          have e1 : sg (PySem.Txt.slice d none (some (d.length - size))) = (sg d).take ((sg d).length - size.toNat) := by
            rw [sg_to hin.1 hin.2, sg_len, toNat_sub hs]
          have e2 : sg (PySem.Txt.slice d (some (d.length - size)) none) = (sg d).drop ((sg d).length - size.toNat) := by
            rw [sg_from hin.1 hin.2, sg_len, toNat_sub hs]
          have hl := sg_len d
          have l1 : (PySem.Txt.slice d none (some (d.length - size))).length = d.length - size.toNat := by rw [← sg_len, e1, List.length_take, sg_len, Nat.min_eq_left (Nat.sub_le _ _)]
          have l2 : (PySem.Txt.slice d (some (d.length - size)) none).length = size.toNat := by rw [← sg_len, e2, List.length_drop, sg_len, Nat.sub_sub_self (Nat.le_of_lt hst)]
          refine ⟨?_, by rw [l1]; exact Nat.le_trans (Nat.sub_le _ _) hP2, ?_⟩
          · rw [← hP1, grp_step (l := sg d) hsp (by rw [sg_len]; exact hst), e1, sg_append, sg_append, e2, comma, sg_tx]
            simp only [List.append_assoc, List.cons_append, List.nil_append]
          · rw [len_append, len_append, l1, l2, comma, len_tx]; simp only [List.length_cons, List.length_nil]; exact grp_room hsp hst hP3
        case zm =>
          dsimp only
          have hin := sub_in hs (Int.le_of_lt hlt)
          have hst := toNat_lt hs hlt
          have hsp : 0 < size.toNat := by omega
          rw [← sg_len, sg_to hin.1 hin.2, List.length_take, toNat_sub hs, sg_len, Nat.min_eq_left (Nat.sub_le _ _)]
          exact Nat.sub_lt (Nat.lt_trans hsp hst) hsp
      · (rename Fr h₀ _ _ _ => zF); (rename News h₀ _ _ _ => zN); (rename ¬ size < (d.length : Int) => hlt)
        refine hret _ _ _ _ ⟨_, _, rfl, ?_, rfl⟩ zF zN
        rw [← hP1, grp_stop (l := sg d) (by have hl := sg_len d; omega), ← sg_append]
end Mine
namespace Mine
def pcs (k : Nat) (l : List Nat) : Nat → List Nat
  | 0 => []
  | i + 1 => pcs k l i ++ (if 0 < i ∧ 0 < k ∧ (l.length - i) % k = 0 then [44] else []) ++ [l.getD i 0]
theorem fmod_pieces {n i : Nat} {size : Int} (h : i ≤ n) (hs : 0 < size) : ((n : Int) - (i : Int)).fmod (if 1 > size then 1 else size) = (((n - i) % size.toNat : Nat) : Int) := by
  rw [if_neg (by omega), Int.fmod_eq_emod_of_nonneg _ (by omega)]
  have e1 : (n : Int) - (i : Int) = ((n - i : Nat) : Int) := by omega
  have e2 : size = ((size.toNat : Nat) : Int) := by omega
  rw [e1]
  conv => lhs; rw [e2]
  rw [Int.natCast_emod]
theorem pieces_con (w : World) (mean : ExcName → Option Value) (mg mb : PySem.Str → Option Value) (x : PySem.Str) (size : Int) (tx ts : PySem.Tok) (rest : Obs)
    (hs : 0 ≤ size) (hs' : size < 1073741824) (hx : x.length ≤ 1000) :
    Con w mean mg mb 144 1 [.str x tx, .int size ts] rest
      (fun v news' => ∃ y t, v = .str y t ∧ sg y = pcs size.toNat (sg x) (sg x).length ∧ news' = rest) False := by
  have kf : kh w.params = kh w.params ∧ PySem.Challenge.rw_xm0635_01 = PySem.Challenge.rw_xm0635_01 := by k_fill; exact ⟨rfl, rfl⟩
  clear kf
  w_top off
  k_with_none
  k_with "subscriptTail Name Constant ref int" => (k_here; (with_reducible show wpAny _ _ (subscriptTail _ _ (Value.ref _) (Value.int _ _)) _ _ _); k_dflt (refine' item_at (IsL.isList (News.get (by k_asm) (by k_mem))) (by decide) (by decide) (by rfl) ?_ (by with_unfolding_all rfl); k_whole))
  k_with "binaryOp FloorDiv int int" => (refine PyProof.Rows.floordiv_int (by omega) ?_)
  k_with "binaryOp Mod int int" => (refine PyProof.Rows.mod_int (by omega) ?_)
  k_with "unf" => repeat' (first | ((fail_if_success (first | (with_reducible show wpAny _ _ (exec (Stmt.While _ _ _ _) _) _ _ _) | (with_reducible show WEnd _ _ _ _ _ _ _ _ _) | (with_reducible show REnd _ _ _ _ _ _ _ _ _) | (with_reducible show Mine.WDone _ _ _ _ _ _ _ _) | (with_reducible show Mine.CPost _ _ _ _ _ _ _ _) | (with_reducible show wpAny _ _ (pyIter _) (fun it s₂ => LoopAtV _ _ _ _ _ _ _ _ _ it s₂) _ _))); first | (k_unfold; (try dsimp only)) | (k_end; wrow_close) | walk1 | (dsimp only; walk1) | (leave1; walk_say "STEP leave1"; try dsimp only)) | fail "no step")
  k_with "WPost" => dsimp only [WPost]
  k_with "RPost" => dsimp only [RPost]
  k_with "exec For Name Call cons nil" => (k_here; (rename Fr _ _ _ _ => lF'); (with_unfolding_all refine' For_invVF lF' (by exact rfl) (by exact rfl) ?_; k_whole))
  k_with "exec For Name Subscript cons nil" => (k_here; (rename Fr _ _ _ _ => lF'); (with_unfolding_all refine' For_invVF lF' (by exact rfl) (by exact rfl) ?_; k_whole))
  k_with "tb1" => (repeat' (first | exact trivial | refine FrAg.cons (by rfl) ?_))
  k_with "tb2" => first | (intro y hy; simp only [List.forall_mem_cons] at hy; simp [lk_cons, hy]; done) | (intro y hx hy; simp only [List.forall_mem_cons] at hy; simp [lk_cons, hx, hy]; done)
  k_with "pick" => first | exact Pick.head (by k_all) | exact Pick.tail (by k_ne) (by kwd_rel)
  k_with "units" => (have hcL9 := cLine_is; (try simp only [units_under_make, units_in1, units_deeper, Around.mark_units, units_caller] at *); (try dsimp only [ktrTop] at *); omega)
  k_with "om" => (with_reducible (first | (show (_ : Int) ≤ _; first | exact lo_of (by first | assumption | exact And.left (by assumption)) (by decide) | exact hi_of1 (by first | assumption | exact And.right (by assumption)) (by decide) | exact hi_of2 (by first | assumption | exact And.right (by assumption)) (by decide) | exact lo_pos (by assumption) (by decide) | exact And.left (by assumption)) | (show (_ : Int) < _; first | exact And.right (by assumption) | exact hi_of3 (by first | assumption | exact And.right (by assumption)) (by decide) | exact hi_of4 (by first | assumption | exact And.right (by assumption)) (by decide) | exact lo_lt (by first | assumption | exact And.left (by assumption)) (by decide)) | (show (_ : Nat) < _; first | exact room2 (by assumption) (by decide) | exact room1 (by assumption) (by decide) | exact room0 (by assumption) | exact nhi_of3 (by assumption) (by decide) | exact nhi_of4 (by assumption) (by decide)) | (show (_ : Nat) ≤ _; first | exact nhi_of2 (by assumption) (by decide) | exact nhi_of1 (by assumption) (by decide)) | (show @Ne Nat _ _; first | exact Ne.symm (by assumption) | exact Nat.ne_of_gt (by first | assumption | exact And.left (by assumption) | exact And.left (And.right (by assumption)) | exact And.left (And.right (And.right (by assumption))) | exact And.left (And.right (And.right (And.right (by assumption))))) | exact Nat.ne_of_lt (by first | assumption | exact And.left (by assumption) | exact And.left (And.right (by assumption)) | exact And.left (And.right (And.right (by assumption))) | exact And.left (And.right (And.right (And.right (by assumption)))))) | (show _ ∧ _; exact And.intro (by omega) (by omega))))
  intro dp un gd cn cs ad ccd cl outer A₀ base h₀ L m s Q E B F X N T hk hd hu hret hexc
  refine wpAny_call ?_
  k_dflt cell_enter
  (rename Fr _ _ _ _ => lF); replace lF : Fr _ _ _ (fun y => List.lookup y [(PySem.Str.ofString "size", .int size ts), (PySem.Str.ofString "figures", .str x tx)]) := lF
  ktr_unf
  · (rename Fr _ _ _ _ => lF); (rename News _ _ _ _ => lN); (rename IsRange _ _ _ _ _ _ _ _ => rgX)
    refine' range_own (n := x.length) (σ := PySem.Str × PySem.Tok) (fun c y => List.lookup y [(PySem.Str.ofString "found", .str c.1 c.2), (PySem.Str.ofString "size", .int size ts), (PySem.Str.ofString "figures", .str x tx)]) (fun _ => rest)
      (fun i c => sg c.1 = pcs size.toNat (sg x) i ∧ c.1.length ≤ 2 * i) (rest.map (·.1)) (PySem.Str.ofString "", _) rfl rgX ?z1 ?z2 lF lN ?z3 ?z4 (fun _ => rfl) ?zp ?zt ?zd
    case z1 => exact small_one (by omega) (by omega) (by omega) (by omega)
    case z2 => exact rangeSize_nat _ _
    case z3 =>
      refine fr_agreeX [PySem.Str.ofString "found", PySem.Str.ofString "figures", PySem.Str.ofString "size"] ?_ ?_
      · tb_start
      · tb_rel
    case z4 => exact fun _ h => h
    case zp => refine ⟨?_, ?_⟩ <;> (dsimp only; rw [empty_tx]); (rw [sg_tx]; rfl); rw [len_tx]; exact Nat.le_refl _
    case zt =>
      intro i
      refine fa2 ?_
      intro f tf h tk t own hi hPP hoff F1 N1
      dsimp only at F1 N1 hPP ⊢
      have hP1 := hPP.1
      have hP2 := hPP.2
      clear hPP
      clear lF lN
      have hit : sg (PySem.Txt.item x (i : Int)) = [(sg x).getD i 0] := sg_item (by omega) (by omega)
      have hl := sg_len x
      ktr_unf
      · (rename Fr _ _ _ _ => lF); (rename News _ _ _ _ => lN); (rename Int.fmod _ _ = 0 => hm)
        have hm' : ((sg x).length - i) % size.toNat = 0 := by rw [fmod_pieces (by omega) (by omega)] at hm; rw [hl]; exact Int.ofNat.inj hm
        refine REnd.intro (f ++ PySem.Str.ofString "," ++ PySem.Txt.item x (i : Int), _) lF lN (fr_agreeX [PySem.Str.ofString "found", PySem.Str.ofString "figures", PySem.Str.ofString "size"] (by tb_start) (by tb_rel)) (fun _ h => h) ⟨?_, ?_⟩
        · rw [sg_append, sg_append, comma, sg_tx, hit, pcs, hP1, if_pos ⟨by omega, by omega, hm'⟩]
        · dsimp only; rw [← sg_len, sg_append, sg_append, hit, comma, sg_tx, List.length_append, List.length_append, sg_len]; simp only [List.length_cons, List.length_nil]; omega
      · (rename Fr _ _ _ _ => lF); (rename News _ _ _ _ => lN); (rename Int.fmod _ _ ≠ 0 => hm)
        have hm' : ((sg x).length - i) % size.toNat ≠ 0 := by rw [fmod_pieces (by omega) (by omega)] at hm; rw [hl]; exact fun e => hm (congrArg Int.ofNat e)
        refine REnd.intro (f ++ PySem.Txt.item x (i : Int), _) lF lN (fr_agreeX [PySem.Str.ofString "found", PySem.Str.ofString "figures", PySem.Str.ofString "size"] (by tb_start) (by tb_rel)) (fun _ h => h) ⟨?_, ?_⟩
        · rw [sg_append, hit, pcs, hP1, if_neg (fun c => hm' c.2.2), List.append_nil]
        · dsimp only; rw [← sg_len, sg_append, hit, List.length_append, sg_len]; simp only [List.length_cons, List.length_nil]; omega
      · (rename Fr _ _ _ _ => lF); (rename News _ _ _ _ => lN)
        refine REnd.intro (f ++ PySem.Txt.item x (i : Int), _) lF lN (fr_agreeX [PySem.Str.ofString "found", PySem.Str.ofString "figures", PySem.Str.ofString "size"] (by tb_start) (by tb_rel)) (fun _ h => h) ⟨?_, ?_⟩
        · rw [sg_append, hit, pcs, hP1, if_neg (by omega), List.append_nil]
        · dsimp only; rw [← sg_len, sg_append, hit, List.length_append, sg_len]; simp only [List.length_cons, List.length_nil]; omega
      · (rename Fr _ _ _ _ => lF); (rename News _ _ _ _ => lN)
        refine REnd.intro (f ++ PySem.Txt.item x (i : Int), _) lF lN (fr_agreeX [PySem.Str.ofString "found", PySem.Str.ofString "figures", PySem.Str.ofString "size"] (by tb_start) (by tb_rel)) (fun _ h => h) ⟨?_, ?_⟩
        · rw [sg_append, hit, pcs, hP1, if_neg (by omega), List.append_nil]
        · dsimp only; rw [← sg_len, sg_append, hit, List.length_append, sg_len]; simp only [List.length_cons, List.length_nil]; omega
    case zd =>
      intro u
      refine fa2 ?_
      intro f tf h tk hPP F1 N1
      dsimp only at F1 N1 hPP ⊢
      have hP1 := hPP.1
      have hP2 := hPP.2
      clear hPP
      clear lF lN
      have hl := sg_len x
      ktr_unf
      (rename Fr h₀ _ _ _ => zF); (rename News h₀ _ _ _ => zN)
      exact hret _ _ _ _ ⟨_, _, rfl, by rw [hP1, hl], rfl⟩ zF zN
end Mine
namespace Mine
def hev (a b : Int) : Int :=
  let q := a.fdiv b
  let t := 2 * (a - q * b)
  if b < t ∨ (t = b ∧ q.fmod 2 = 1) then q + 1 else q
def nrs (a b : Int) : Int :=
  let q := (2 * a + b).fdiv (2 * b)
  if (2 * a + b).fmod (2 * b) = 0 ∧ q.fmod 2 = 1 then q - 1 else q
theorem half_con (w : World) (mean : ExcName → Option Value) (mg mb : PySem.Str → Option Value) (a b : Int) (ta tb : PySem.Tok) (rest : Obs)
    (hb : 0 < b) (hb' : b < 1073741824) :
    Con w mean mg mb 88 1 [.int a ta, .int b tb] rest
      (fun v news' => ∃ r t, v = .int r t ∧ r = hev a b ∧ news' = rest) False := by
  have kf : kh w.params = kh w.params ∧ PySem.Challenge.rw_xm0635_01 = PySem.Challenge.rw_xm0635_01 := by k_fill; exact ⟨rfl, rfl⟩
  clear kf
  w_top off
  k_with_none
  k_with "subscriptTail Name Constant ref int" => (k_here; (with_reducible show wpAny _ _ (subscriptTail _ _ (Value.ref _) (Value.int _ _)) _ _ _); k_dflt (refine' item_at (IsL.isList (News.get (by k_asm) (by k_mem))) (by decide) (by decide) (by rfl) ?_ (by with_unfolding_all rfl); k_whole))
  k_with "binaryOp FloorDiv int int" => (refine PyProof.Rows.floordiv_int (by omega) ?_)
  k_with "binaryOp Mod int int" => (refine PyProof.Rows.mod_int (by omega) ?_)
  k_with "unf" => repeat' (first | ((fail_if_success (first | (with_reducible show wpAny _ _ (exec (Stmt.While _ _ _ _) _) _ _ _) | (with_reducible show WEnd _ _ _ _ _ _ _ _ _) | (with_reducible show REnd _ _ _ _ _ _ _ _ _) | (with_reducible show Mine.WDone _ _ _ _ _ _ _ _) | (with_reducible show Mine.CPost _ _ _ _ _ _ _ _) | (with_reducible show wpAny _ _ (pyIter _) (fun it s₂ => LoopAtV _ _ _ _ _ _ _ _ _ it s₂) _ _))); first | (k_unfold; (try dsimp only)) | (k_end; wrow_close) | walk1 | (dsimp only; walk1) | (leave1; walk_say "STEP leave1"; try dsimp only)) | fail "no step")
  k_with "WPost" => dsimp only [WPost]
  k_with "RPost" => dsimp only [RPost]
  k_with "exec For Name Call cons nil" => (k_here; (rename Fr _ _ _ _ => lF'); (with_unfolding_all refine' For_invVF lF' (by exact rfl) (by exact rfl) ?_; k_whole))
  k_with "exec For Name Subscript cons nil" => (k_here; (rename Fr _ _ _ _ => lF'); (with_unfolding_all refine' For_invVF lF' (by exact rfl) (by exact rfl) ?_; k_whole))
  k_with "tb1" => (repeat' (first | exact trivial | refine FrAg.cons (by rfl) ?_))
  k_with "tb2" => first | (intro y hy; simp only [List.forall_mem_cons] at hy; simp [lk_cons, hy]; done) | (intro y hx hy; simp only [List.forall_mem_cons] at hy; simp [lk_cons, hx, hy]; done)
  k_with "pick" => first | exact Pick.head (by k_all) | exact Pick.tail (by k_ne) (by kwd_rel)
  k_with "units" => (have hcL9 := cLine_is; (try simp only [units_under_make, units_in1, units_deeper, Around.mark_units, units_caller] at *); (try dsimp only [ktrTop] at *); omega)
  k_with "om" => (with_reducible (first | (show (_ : Int) ≤ _; first | exact lo_of (by first | assumption | exact And.left (by assumption)) (by decide) | exact hi_of1 (by first | assumption | exact And.right (by assumption)) (by decide) | exact hi_of2 (by first | assumption | exact And.right (by assumption)) (by decide) | exact lo_pos (by assumption) (by decide) | exact And.left (by assumption)) | (show (_ : Int) < _; first | exact And.right (by assumption) | exact hi_of3 (by first | assumption | exact And.right (by assumption)) (by decide) | exact hi_of4 (by first | assumption | exact And.right (by assumption)) (by decide) | exact lo_lt (by first | assumption | exact And.left (by assumption)) (by decide)) | (show (_ : Nat) < _; first | exact room2 (by assumption) (by decide) | exact room1 (by assumption) (by decide) | exact room0 (by assumption) | exact nhi_of3 (by assumption) (by decide) | exact nhi_of4 (by assumption) (by decide)) | (show (_ : Nat) ≤ _; first | exact nhi_of2 (by assumption) (by decide) | exact nhi_of1 (by assumption) (by decide)) | (show @Ne Nat _ _; first | exact Ne.symm (by assumption) | exact Nat.ne_of_gt (by first | assumption | exact And.left (by assumption) | exact And.left (And.right (by assumption)) | exact And.left (And.right (And.right (by assumption))) | exact And.left (And.right (And.right (And.right (by assumption))))) | exact Nat.ne_of_lt (by first | assumption | exact And.left (by assumption) | exact And.left (And.right (by assumption)) | exact And.left (And.right (And.right (by assumption))) | exact And.left (And.right (And.right (And.right (by assumption)))))) | (show _ ∧ _; exact And.intro (by omega) (by omega))))
  intro dp un gd cn cs ad ccd cl outer A₀ base h₀ L m s Q E B F X N T hk hd hu hret hexc
  refine wpAny_call ?_
  k_dflt cell_enter
  (rename Fr _ _ _ _ => lF); replace lF : Fr _ _ _ (fun y => List.lookup y [(PySem.Str.ofString "bottom", .int b tb), (PySem.Str.ofString "top", .int a ta)]) := lF
  ktr_unf
  all_goals ((rename Fr h₀ _ _ _ => zF); (rename News h₀ _ _ _ => zN); exact hret _ _ _ _ ⟨_, _, rfl, by (simp only [hev, nrs]; split <;> first | rfl | (exfalso; omega)), rfl⟩ zF zN)
theorem near_con (w : World) (mean : ExcName → Option Value) (mg mb : PySem.Str → Option Value) (a b : Int) (ta tb : PySem.Tok) (rest : Obs)
    (hb : 0 < b) (hb' : b < 10000000) :
    Con w mean mg mb 137 1 [.int a ta, .int b tb] rest
      (fun v news' => ∃ r t, v = .int r t ∧ r = nrs a b ∧ news' = rest) False := by
  have kf : kh w.params = kh w.params ∧ PySem.Challenge.rw_xm0635_01 = PySem.Challenge.rw_xm0635_01 := by k_fill; exact ⟨rfl, rfl⟩
  clear kf
  w_top off
  k_with_none
  k_with "subscriptTail Name Constant ref int" => (k_here; (with_reducible show wpAny _ _ (subscriptTail _ _ (Value.ref _) (Value.int _ _)) _ _ _); k_dflt (refine' item_at (IsL.isList (News.get (by k_asm) (by k_mem))) (by decide) (by decide) (by rfl) ?_ (by with_unfolding_all rfl); k_whole))
  k_with "binaryOp FloorDiv int int" => (refine PyProof.Rows.floordiv_int (by omega) ?_)
  k_with "binaryOp Mod int int" => (refine PyProof.Rows.mod_int (by omega) ?_)
  k_with "unf" => repeat' (first | ((fail_if_success (first | (with_reducible show wpAny _ _ (exec (Stmt.While _ _ _ _) _) _ _ _) | (with_reducible show WEnd _ _ _ _ _ _ _ _ _) | (with_reducible show REnd _ _ _ _ _ _ _ _ _) | (with_reducible show Mine.WDone _ _ _ _ _ _ _ _) | (with_reducible show Mine.CPost _ _ _ _ _ _ _ _) | (with_reducible show wpAny _ _ (pyIter _) (fun it s₂ => LoopAtV _ _ _ _ _ _ _ _ _ it s₂) _ _))); first | (k_unfold; (try dsimp only)) | (k_end; wrow_close) | walk1 | (dsimp only; walk1) | (leave1; walk_say "STEP leave1"; try dsimp only)) | fail "no step")
  k_with "WPost" => dsimp only [WPost]
  k_with "RPost" => dsimp only [RPost]
  k_with "exec For Name Call cons nil" => (k_here; (rename Fr _ _ _ _ => lF'); (with_unfolding_all refine' For_invVF lF' (by exact rfl) (by exact rfl) ?_; k_whole))
  k_with "exec For Name Subscript cons nil" => (k_here; (rename Fr _ _ _ _ => lF'); (with_unfolding_all refine' For_invVF lF' (by exact rfl) (by exact rfl) ?_; k_whole))
  k_with "tb1" => (repeat' (first | exact trivial | refine FrAg.cons (by rfl) ?_))
  k_with "tb2" => first | (intro y hy; simp only [List.forall_mem_cons] at hy; simp [lk_cons, hy]; done) | (intro y hx hy; simp only [List.forall_mem_cons] at hy; simp [lk_cons, hx, hy]; done)
  k_with "pick" => first | exact Pick.head (by k_all) | exact Pick.tail (by k_ne) (by kwd_rel)
  k_with "units" => (have hcL9 := cLine_is; (try simp only [units_under_make, units_in1, units_deeper, Around.mark_units, units_caller] at *); (try dsimp only [ktrTop] at *); omega)
  k_with "om" => (with_reducible (first | (show (_ : Int) ≤ _; first | exact lo_of (by first | assumption | exact And.left (by assumption)) (by decide) | exact hi_of1 (by first | assumption | exact And.right (by assumption)) (by decide) | exact hi_of2 (by first | assumption | exact And.right (by assumption)) (by decide) | exact lo_pos (by assumption) (by decide) | exact And.left (by assumption)) | (show (_ : Int) < _; first | exact And.right (by assumption) | exact hi_of3 (by first | assumption | exact And.right (by assumption)) (by decide) | exact hi_of4 (by first | assumption | exact And.right (by assumption)) (by decide) | exact lo_lt (by first | assumption | exact And.left (by assumption)) (by decide)) | (show (_ : Nat) < _; first | exact room2 (by assumption) (by decide) | exact room1 (by assumption) (by decide) | exact room0 (by assumption) | exact nhi_of3 (by assumption) (by decide) | exact nhi_of4 (by assumption) (by decide)) | (show (_ : Nat) ≤ _; first | exact nhi_of2 (by assumption) (by decide) | exact nhi_of1 (by assumption) (by decide)) | (show @Ne Nat _ _; first | exact Ne.symm (by assumption) | exact Nat.ne_of_gt (by first | assumption | exact And.left (by assumption) | exact And.left (And.right (by assumption)) | exact And.left (And.right (And.right (by assumption))) | exact And.left (And.right (And.right (And.right (by assumption))))) | exact Nat.ne_of_lt (by first | assumption | exact And.left (by assumption) | exact And.left (And.right (by assumption)) | exact And.left (And.right (And.right (by assumption))) | exact And.left (And.right (And.right (And.right (by assumption)))))) | (show _ ∧ _; exact And.intro (by omega) (by omega))))
  intro dp un gd cn cs ad ccd cl outer A₀ base h₀ L m s Q E B F X N T hk hd hu hret hexc
  refine wpAny_call ?_
  k_dflt cell_enter
  (rename Fr _ _ _ _ => lF); replace lF : Fr _ _ _ (fun y => List.lookup y [(PySem.Str.ofString "bottom", .int b tb), (PySem.Str.ofString "top", .int a ta)]) := lF
  ktr_unf
  all_goals ((rename Fr h₀ _ _ _ => zF); (rename News h₀ _ _ _ => zN); exact hret _ _ _ _ ⟨_, _, rfl, by (simp only [hev, nrs]; split <;> first | rfl | (exfalso; omega)), rfl⟩ zF zN)
end Mine

namespace Mine
theorem item_any {prog w A E s} {value slice : PySem.Expr} {l : PySem.Addr} {vs : List Value} {k : Int} {u : PySem.Tok} {Q : Value → Shared → Prop}
    (hl : s.heap.IsList l vs.toArray) (h0 : 0 ≤ k) (h1 : k < vs.length) (hhi : vs.length ≤ 100) (h : ∀ v, v ∈ vs → Q v s)
    (hs : subscripted slice false (.ref l) (.int k u) = operate [.ref l, .int k u] (getItem (.ref l) (.int k u)) := by with_unfolding_all rfl) :
    wpAny (model prog w) A (subscriptTail value slice (.ref l) (.int k u)) Q E s :=
  Mine.item_at hl h0 (by omega) (List.getElem?_eq_getElem (by omega)) (h _ (List.getElem_mem _)) hs
end Mine
namespace Mine
theorem one_con (w : World) (mean : ExcName → Option Value) (mg mb : PySem.Str → Option Value) (src th : PySem.Addr) (a b : Int) (ta tb : PySem.Tok) (n k : Nat) (vs : List Value) (rest : Obs)
    (ha : 0 ≤ a) (hb : 0 ≤ b) (hb' : b < 2147483647) (hv : 0 < vs.length) (hv' : vs.length ≤ 100) (hne : th ≠ src) (hr : ∀ p ∈ rest, p.1 ≠ src) :
    Con w mean mg mb 123 2 [.ref src, .ref th] ((th, listOf vs.toArray k) :: (src, listOf #[.int a ta, .int b tb] n) :: rest)
      (fun v news' => ∃ a' b' ta' tb' n', v ∈ vs ∧ 0 ≤ a' ∧ 0 ≤ b' ∧ b' < 2147483647 ∧ news' = (src, listOf #[.int a' ta', .int b' tb'] n') :: (th, listOf vs.toArray k) :: rest) False := by
  have kf : kh w.params = kh w.params ∧ PySem.Challenge.rw_xm0635_01 = PySem.Challenge.rw_xm0635_01 := by k_fill; exact ⟨rfl, rfl⟩
  clear kf
  w_top off
  k_with_none
  k_with "subscriptTail Name Constant ref int" => (k_here; (with_reducible show wpAny _ _ (subscriptTail _ _ (Value.ref _) (Value.int _ _)) _ _ _); k_dflt (refine' item_at (IsL.isList (News.get (by k_asm) (by k_mem))) (by decide) (by decide) (by rfl) ?_ (by with_unfolding_all rfl); k_whole))
  k_with "binaryOp FloorDiv int int" => (refine PyProof.Rows.floordiv_int (by omega) ?_)
  k_with "binaryOp Mod int int" => (refine PyProof.Rows.mod_int (by omega) ?_)
  k_with "unf" => repeat' (first | ((fail_if_success (first | (with_reducible show wpAny _ _ (exec (Stmt.While _ _ _ _) _) _ _ _) | (with_reducible show WEnd _ _ _ _ _ _ _ _ _) | (with_reducible show REnd _ _ _ _ _ _ _ _ _) | (with_reducible show Mine.WDone _ _ _ _ _ _ _ _) | (with_reducible show Mine.CPost _ _ _ _ _ _ _ _) | (with_reducible show wpAny _ _ (pyIter _) (fun it s₂ => LoopAtV _ _ _ _ _ _ _ _ _ it s₂) _ _))); first | (k_unfold; (try dsimp only)) | (k_end; wrow_close) | walk1 | (dsimp only; walk1) | (leave1; walk_say "STEP leave1"; try dsimp only)) | fail "no step")
  k_with "WPost" => dsimp only [WPost]
  k_with "RPost" => dsimp only [RPost]
  k_with "exec For Name Call cons nil" => (k_here; (rename Fr _ _ _ _ => lF'); (with_unfolding_all refine' For_invVF lF' (by exact rfl) (by exact rfl) ?_; k_whole))
  k_with "exec For Name Subscript cons nil" => (k_here; (rename Fr _ _ _ _ => lF'); (with_unfolding_all refine' For_invVF lF' (by exact rfl) (by exact rfl) ?_; k_whole))
  k_with "tb1" => (repeat' (first | exact trivial | refine FrAg.cons (by rfl) ?_))
  k_with "tb2" => first | (intro y hy; simp only [List.forall_mem_cons] at hy; simp [lk_cons, hy]; done) | (intro y hx hy; simp only [List.forall_mem_cons] at hy; simp [lk_cons, hx, hy]; done)
  k_with "pick" => first | exact Pick.head (by k_all) | exact Pick.tail (by k_ne) (by kwd_rel)
  k_with "units" => (have hcL9 := cLine_is; (try simp only [units_under_make, units_in1, units_deeper, Around.mark_units, units_caller] at *); (try dsimp only [ktrTop] at *); omega)
  k_with "om" => (with_reducible (first | (show (_ : Int) ≤ _; first | exact lo_of (by first | assumption | exact And.left (by assumption)) (by decide) | exact hi_of1 (by first | assumption | exact And.right (by assumption)) (by decide) | exact hi_of2 (by first | assumption | exact And.right (by assumption)) (by decide) | exact lo_pos (by assumption) (by decide) | exact And.left (by assumption)) | (show (_ : Int) < _; first | exact And.right (by assumption) | exact hi_of3 (by first | assumption | exact And.right (by assumption)) (by decide) | exact hi_of4 (by first | assumption | exact And.right (by assumption)) (by decide) | exact lo_lt (by first | assumption | exact And.left (by assumption)) (by decide)) | (show (_ : Nat) < _; first | exact room2 (by assumption) (by decide) | exact room1 (by assumption) (by decide) | exact room0 (by assumption) | exact nhi_of3 (by assumption) (by decide) | exact nhi_of4 (by assumption) (by decide)) | (show (_ : Nat) ≤ _; first | exact nhi_of2 (by assumption) (by decide) | exact nhi_of1 (by assumption) (by decide)) | (show @Ne Nat _ _; first | exact Ne.symm (by assumption) | exact Nat.ne_of_gt (by first | assumption | exact And.left (by assumption) | exact And.left (And.right (by assumption)) | exact And.left (And.right (And.right (by assumption))) | exact And.left (And.right (And.right (And.right (by assumption))))) | exact Nat.ne_of_lt (by first | assumption | exact And.left (by assumption) | exact And.left (And.right (by assumption)) | exact And.left (And.right (And.right (by assumption))) | exact And.left (And.right (And.right (And.right (by assumption)))))) | (show _ ∧ _; exact And.intro (by omega) (by omega))))
  k_with "call ref" => (k_here; (with_reducible show wpAny _ _ (call (Value.ref 116) _) _ _ _); k_dflt (refine' take_use (by k_asm) (by k_asm) (by k_asm) (by k_asm) (by k_asm) (by first | exact rfl | assumption) (by kwd_rel) (by ktr_room) (by ktr_units) (by omega) (by omega) (by omega) (by omega) (by omega) ?_; k_whole; intro r9 tr9 a9 b9 ta9 tb9 n9 h9 tk9 hr0 hr1 ha0 hb0 hb1 F9 N9; (try k_sweep)))
  k_with "call builtin:len" => (k_here; (with_reducible show wpAny _ _ (call (Value.builtin "len") [Value.ref _]) _ _ _); k_dflt (refine' kst_len (by k_asm) (by k_mem) (by rfl) (by (try simp only [List.length_cons, List.length_nil]); omega) ?_; k_whole))
  k_with "subscriptTail Name Call ref int" => (k_here; (with_reducible show wpAny _ _ (subscriptTail _ _ (Value.ref _) (Value.int _ _)) _ _ _); k_dflt (refine' item_any (IsL.isList (News.get (by k_asm) (by k_mem))) (by omega) (by omega) (by omega) ?_ (by with_unfolding_all rfl); k_whole; intro v9 hv9))
  intro dp un gd cn cs ad ccd cl outer A₀ base h₀ L m s Q E B F X N T hk hd hu hret hexc
  refine wpAny_call ?_
  k_dflt cell_enter
  (rename Fr _ _ _ _ => lF); replace lF : Fr _ _ _ (fun y => List.lookup y [(PySem.Str.ofString "things", .ref th), (PySem.Str.ofString "source", .ref src)]) := lF
  ktr_unf
  (rename Fr h₀ _ _ _ => zF); (rename News h₀ _ _ _ => zN)
  exact hret _ _ _ _ ⟨_, _, _, _, _, by assumption, by assumption, by assumption, by assumption, rfl⟩ zF zN
end Mine
namespace Mine
section
variable {prog : Program} {w : World} {A : Around} {E : Value → Shared → Prop} {h : Heap} {g : Array GenState} {d : Drawn} {t : Nat} {os : OsState}
variable {nm q : PySem.Str} {C N a1 : PySem.Addr} {bs bm : List Value} {hdct : Bool} {sn : List PySem.Str} {sub : List Value} {ab : Bool} {col : Option Bool} {dd : Option PySem.Addr} {k0 k1 k2 k3 k5 : Option Value}
abbrev bmE : List Value := [.type "Exception", .type "BaseException", .type "object"]
theorem holds_type (X : String) (b : Bool) (hb : bmE.contains (.type X) = b) : (Value.ref C :: Value.ref a1 :: bmE).contains (.type X) = b := by
  rw [List.contains_cons, List.contains_cons, hb]; rfl

theorem fault_new_check {M : Model} {rest : List Value} {Q : Unit → Shared → Prop}
    (hC : h.get? C = some (excClassObj nm q C N bs (.ref a1 :: bmE) hdct sn sub ab col dd k0 k1 k2 k3 k5 "Exception.__new__")) (hq : Q () ⟨h, g, d, t, os⟩) :
    wpAny M A (checkBuiltinCall "Exception.__new__" ⟨.ref C :: rest, []⟩) Q E ⟨h, g, d, t, os⟩ := by
  have F := PySem.F.excBase_Exception
  have hcont : (Value.ref C :: Value.ref a1 :: bmE).contains (.type "Exception") = true := holds_type _ _ rfl
  have hstar := F.noStar
  simp only [checkBuiltinCall, F.newKind, F.newSplit, F.newRow]
  repeat (first | refine wpAny_loadPart_at hC ?_ | (refine wpAny_isSubtype_exc hC ?_; rw [hcont]) | refine wpAny_staticBase_exc hC ?_ | refine wpAny_madeBy_exc hC ?_ | simp only [bne_self_eq_false, Bool.false_eq_true, if_false] | wp_step)
  exact hq

theorem fault_new {R : Result → Shared → Prop} {rest : List Value}
    (hC : h.get? C = some (excClassObj nm q C N bs (.ref a1 :: bmE) hdct sn sub ab col dd k0 k1 k2 k3 k5 "Exception.__new__"))
    (hq : R (.ok (.ret (.ref (h.objs.size + 1)))) ⟨(h.push { cls := .type "tuple", data := .seq rest.toArray }).push
      { cls := .ref C, data := .fields #[.ref h.objs.size, .none, .none, .none, .bool false, .none] }, g, d, t, os⟩) (hrest : rest.length ≤ sizeLine) :
    codeAny (model prog w) A (.builtin "Exception.__new__" ⟨.ref C :: rest, []⟩) R ⟨h, g, d, t, os⟩ := by
  have F := PySem.F.excBase_Exception
  have hends := F.ends
  have hcB : (Value.ref C :: Value.ref a1 :: bmE).contains (.type "Exception") = true := holds_type _ _ rfl
  have hcA : (Value.ref C :: Value.ref a1 :: bmE).contains (.type "AttributeError") = false := holds_type _ _ rfl
  have hcN : (Value.ref C :: Value.ref a1 :: bmE).contains (.type "NameError") = false := holds_type _ _ rfl
  refine codeAny_builtinAt F.entry ?_
  unfold Builtin.«BaseException.__new__»
  refine PySem.wpAt_bind ?_
  show PySem.wpAt _ _ _ (stack >>= _) _ _ _
  refine PySem.wpAt_bind (PySem.wpAt_stack fun p below => PySem.wpAt_of_wpAny ?_)
  wp_walk
  refine PySem.wpAt_of_wpAny ?_
  rw [F.owner]
  repeat (first | with_reducible refine wpAny_madeHere_exc F.canon hC ?_ | with_reducible refine wpAny_loadPart_at hC ?_ | (with_reducible refine wpAny_isSubtype_exc hC ?_; first | rw [hcB] | rw [hcA] | rw [hcN]) | wp_step)
  show R _ _
  rw [Heap.size_push]
  exact hq

/-- an own class's call: the object is there, then the base's own __init__ is called -/
theorem fault_call {fI : PySem.Addr} {od : Option PySem.Addr} {dt : PySem.Data} {osl : Array (Option Value)} {rest : List Value} {Q : Value → Shared → Prop}
    (hC : h.get? C = some (excClassObj nm q C N bs (.ref a1 :: bmE) hdct sn sub ab col dd k0 k1 k2 k3 k5 "Exception.__new__")) (hi : Looks (model prog w) h (typeLookup (.ref C) "__init__") (some (.ref fI))) (hfI : h.get? fI = some ⟨.type "function", od, dt, osl⟩)
    (hrest : rest.length ≤ sizeLine)
    (hq : codeAny (model prog w) (A.under (.builtin "type.__call__" ⟨.ref C :: rest, []⟩)) (.call (.ref fI) ⟨.ref (h.objs.size + 1) :: rest, []⟩)
      (InitBack (h.objs.size + 1) fun r s' => match r with | .ok (.ret v) => Q v s' | .ok _ => False | .error e => E e s')
      ⟨(h.push { cls := .type "tuple", data := .seq rest.toArray }).push { cls := .ref C, data := .fields #[.ref h.objs.size, .none, .none, .none, .bool false, .none] }, g, d, t, os⟩) :
    wpAny (model prog w) A (call (.ref C) rest) Q E ⟨h, g, d, t, os⟩ := by
  have F := PySem.F.excBase_Exception
  have f1 := tc_lookup
  have f2 := tc_bind (.ref C)
  have hT : (⟨h, g, d, t, os⟩ : Shared).TypeIs (.ref C) "type" := ⟨_, hC, rfl⟩
  refine wpAny_call (codeAny_of_tree ?_)
  show wpAny _ _ (callAny (.ref C) _) _ _ _
  repeat (any_goals (first | assumption | with_reducible refine wpAny_loadPart_at hC ?_ | wp_step))
  refine ⟨rfl, ?_⟩
  refine codeAny_call_builtin_at (Code.quiet_builtin _ (by decide +kernel)) entry_typeCall (wpAny_check_type_call_sub hC ?_)
  repeat (first | with_reducible refine wpAny_loadPart_at hC ?_ | with_reducible refine wpAny_madeBy_exc hC ?_ | wp_step)
  refine codeAny_call_builtin_code (Code.quiet_builtin _ F.quiet) (fault_new_check hC ?_)
  refine fault_new hC ?_ hrest
  show wpAny _ _ _ _ _ _
  have up : ∀ b o, h.get? b = some o → ((h.push { cls := .type "tuple", data := .seq rest.toArray }).push { cls := .ref C, data := .fields #[.ref h.objs.size, .none, .none, .none, .bool false, .none] }).get? b = some o :=
    fun b o e => Heap.get?_push_of_some _ (Heap.get?_push_of_some _ e)
  have hC₁ := up _ _ hC
  have hget : ((h.push { cls := .type "tuple", data := .seq rest.toArray }).push
      { cls := .ref C, data := .fields #[.ref h.objs.size, .none, .none, .none, .bool false, .none] }).get? (h.objs.size + 1) = some
      { cls := .ref C, data := .fields #[.ref h.objs.size, .none, .none, .none, .bool false, .none] } := by heap_get
  have hcC : (Value.ref C :: Value.ref a1 :: bmE).contains (.ref C) = true := by simp
  unfold isInstance
  repeat (first | with_reducible refine wpAny_loadPart_at hget ?_ | (with_reducible refine wpAny_isSubtype_exc hC₁ ?_; rw [hcC]) | wp_step)
  refine wpAny_isSubtype_exc hC₁ ?_
  rw [hcC]
  repeat (first | with_reducible refine wpAny_loadPart_at hget ?_ | wp_step)
  show wpAny _ _ (typeLookup (.ref C) _) _ _ _
  refine hi _ _ _ _ up ?_
  refine wpAny_holding (wpAny_bind ?_)
  unfold bindSpecial
  refine wpAny_bind (wpAny_typeOf (T := "function") ⟨_, up _ _ hfI, rfl⟩ ?_)
  rw [if_pos (by decide)]
  refine wpAny_pure ?_
  refine wpAny_bind (wpAny_call (codeAny_mono hq fun r s' x => ?_))
  cases r with
  | error e => exact x
  | ok f =>
    cases f with
    | ret v =>
      obtain ⟨rfl, hQ⟩ := x
      wp_walk
      exact hQ
    | _ => exact x
end

end Mine
namespace Mine
abbrev excObj (d : Option PySem.Addr) (tp : PySem.Addr) : Obj := { cls := .ref 44, dict := d, data := .fields #[.ref tp, .none, .none, .none, .bool false, .none] }
section
variable {prog : Program} {w : World} {A : Around} {E : Value → Shared → Prop} {s : Shared} {h₀ : Heap} {L : PySem.Addr} {m : PySem.Str → Option Value} {news : Obs}
theorem fault_K {rest : List Value} {Q : Value → Shared → Prop} (F : Fr h₀ L s.heap m) (X₀ : (kh w.params).In h₀) (N : News h₀ L s.heap news) (hrest : rest.length ≤ sizeLine)
    (h : ∀ e tp h', Fr h₀ L h' m → News h₀ L h' ((e, excObj none tp) :: (tp, { cls := .type "tuple", data := .seq rest.toArray }) :: news) → (∀ p ∈ news, p.1 < tp) → tp < e →
      codeAny (model prog w) (A.under (.builtin "type.__call__" ⟨.ref 44 :: rest, []⟩)) (.call (.ref 28) ⟨.ref e :: rest, []⟩) (InitBack e fun r s' => match r with | .ok (.ret v) => Q v s' | .ok _ => False | .error e => E e s') { s with heap := h' }) :
    wpAny (model prog w) A (call (.ref 44) rest) Q E s := by
  have kf : kh w.params = kh w.params ∧ PySem.Challenge.rw_xm0635_01 = PySem.Challenge.rw_xm0635_01 := by k_fill; exact ⟨rfl, rfl⟩
  clear kf
  w_top off
  k_with_none
  k_with "subscriptTail Name Constant ref int" => (k_here; (with_reducible show wpAny _ _ (subscriptTail _ _ (Value.ref _) (Value.int _ _)) _ _ _); k_dflt (refine' item_at (IsL.isList (News.get (by k_asm) (by k_mem))) (by decide) (by decide) (by rfl) ?_ (by with_unfolding_all rfl); k_whole))
  k_with "binaryOp FloorDiv int int" => (refine PyProof.Rows.floordiv_int (by omega) ?_)
  k_with "binaryOp Mod int int" => (refine PyProof.Rows.mod_int (by omega) ?_)
  k_with "unf" => repeat' (first | ((fail_if_success (first | (with_reducible show wpAny _ _ (exec (Stmt.While _ _ _ _) _) _ _ _) | (with_reducible show WEnd _ _ _ _ _ _ _ _ _) | (with_reducible show REnd _ _ _ _ _ _ _ _ _) | (with_reducible show Mine.WDone _ _ _ _ _ _ _ _) | (with_reducible show Mine.CPost _ _ _ _ _ _ _ _) | (with_reducible show wpAny _ _ (pyIter _) (fun it s₂ => LoopAtV _ _ _ _ _ _ _ _ _ it s₂) _ _))); first | (k_unfold; (try dsimp only)) | (k_end; wrow_close) | walk1 | (dsimp only; walk1) | (leave1; walk_say "STEP leave1"; try dsimp only)) | fail "no step")
  k_with "WPost" => dsimp only [WPost]
  k_with "RPost" => dsimp only [RPost]
  k_with "exec For Name Call cons nil" => (k_here; (rename Fr _ _ _ _ => lF'); (with_unfolding_all refine' For_invVF lF' (by exact rfl) (by exact rfl) ?_; k_whole))
  k_with "exec For Name Subscript cons nil" => (k_here; (rename Fr _ _ _ _ => lF'); (with_unfolding_all refine' For_invVF lF' (by exact rfl) (by exact rfl) ?_; k_whole))
  k_with "tb1" => (repeat' (first | exact trivial | refine FrAg.cons (by rfl) ?_))
  k_with "tb2" => first | (intro y hy; simp only [List.forall_mem_cons] at hy; simp [lk_cons, hy]; done) | (intro y hx hy; simp only [List.forall_mem_cons] at hy; simp [lk_cons, hx, hy]; done)
  k_with "pick" => first | exact Pick.head (by k_all) | exact Pick.tail (by k_ne) (by kwd_rel)
  k_with "units" => (have hcL9 := cLine_is; (try simp only [units_under_make, units_in1, units_deeper, Around.mark_units, units_caller] at *); (try dsimp only [ktrTop] at *); omega)
  k_with "om" => (with_reducible (first | (show (_ : Int) ≤ _; first | exact lo_of (by first | assumption | exact And.left (by assumption)) (by decide) | exact hi_of1 (by first | assumption | exact And.right (by assumption)) (by decide) | exact hi_of2 (by first | assumption | exact And.right (by assumption)) (by decide) | exact lo_pos (by assumption) (by decide) | exact And.left (by assumption)) | (show (_ : Int) < _; first | exact And.right (by assumption) | exact hi_of3 (by first | assumption | exact And.right (by assumption)) (by decide) | exact hi_of4 (by first | assumption | exact And.right (by assumption)) (by decide) | exact lo_lt (by first | assumption | exact And.left (by assumption)) (by decide)) | (show (_ : Nat) < _; first | exact room2 (by assumption) (by decide) | exact room1 (by assumption) (by decide) | exact room0 (by assumption) | exact nhi_of3 (by assumption) (by decide) | exact nhi_of4 (by assumption) (by decide)) | (show (_ : Nat) ≤ _; first | exact nhi_of2 (by assumption) (by decide) | exact nhi_of1 (by assumption) (by decide)) | (show @Ne Nat _ _; first | exact Ne.symm (by assumption) | exact Nat.ne_of_gt (by first | assumption | exact And.left (by assumption) | exact And.left (And.right (by assumption)) | exact And.left (And.right (And.right (by assumption))) | exact And.left (And.right (And.right (And.right (by assumption))))) | exact Nat.ne_of_lt (by first | assumption | exact And.left (by assumption) | exact And.left (And.right (by assumption)) | exact And.left (And.right (And.right (by assumption))) | exact And.left (And.right (And.right (And.right (by assumption)))))) | (show _ ∧ _; exact And.intro (by omega) (by omega))))
  have X := X₀.keeps F.keep
  refine' fault_call (X _ _ ?e44) (looks_findIn X ?ei) (X _ _ ?e28) hrest (h _ _ _ ?eF ?eN (fun p hp => Heap.lt_size (N p hp).1) ?el)
  case e44 => k_is
  case ei => k_is
  case e28 => k_is
  case eF => exact (F.push _).push _
  case eN => have := (N.push F { cls := .type "tuple", data := .seq rest.toArray }).push (F.push _) (excObj none s.heap.objs.size); rwa [Heap.size_push] at this
  case el => exact Nat.lt_succ_self _
end
end Mine
namespace Mine
section
variable {prog : Program} {w : World} {A : Around} {E : Value → Shared → Prop} {s : Shared} {h₀ : Heap} {L : PySem.Addr} {m : PySem.Str → Option Value} {news : Obs}
theorem fault_init_check {M : Model} {h : Heap} {g : Array GenState} {d : Drawn} {t : Nat} {os : OsState} {nm q : PySem.Str} {C N a1 : PySem.Addr} {bs : List Value} {hdct : Bool} {sn : List PySem.Str} {sub : List Value} {ab : Bool} {col : Option Bool} {dd : Option PySem.Addr} {k0 k1 k2 k3 k5 : Option Value} {newId : String} {e : PySem.Addr} {oe : Obj} {rest : List Value} {Q : Unit → Shared → Prop}
    (hC : h.get? C = some (excClassObj nm q C N bs (.ref a1 :: bmE) hdct sn sub ab col dd k0 k1 k2 k3 k5 newId)) (he : h.get? e = some oe) (hcls : oe.cls = .ref C) (hq : Q () ⟨h, g, d, t, os⟩) :
    wpAny M A (checkBuiltinCall "Exception.__init__" ⟨.ref e :: rest, []⟩) Q E ⟨h, g, d, t, os⟩ := by
  have F := PySem.F.excBase_Exception
  have hcB : (Value.ref C :: Value.ref a1 :: bmE).contains (.type "Exception") = true := holds_type _ _ rfl
  have hshort := F.noStar
  simp only [checkBuiltinCall, F.initKind, F.initSplit, F.initRow]
  repeat (first | (with_reducible refine wpAny_loadPart_at he ?_; rw [hcls]) | with_reducible refine wpAny_loadPart_at hC ?_ | (with_reducible refine wpAny_isSubtype_exc hC ?_; rw [hcB]) | wp_step)
  refine wpAny_onRaise ?_
  rw [show ∀ (a b : String) (n : Nat), Bind.check ⟨.positional, "*", "Exception", .self, [⟨"args", .varPos, false⟩]⟩ a b n (List.map (fun x => x.fst) ({ pos := Value.ref e :: rest } : Args).kw) = pure () from
    fun a b n => check_star_args _ _ _ _ _ _]
  exact wpAny_pure hq

theorem exc_init {e tp : PySem.Addr} {rest : List Value} {r : Obs} {Q : Value → Shared → Prop} (F : Fr h₀ L s.heap m) (X₀ : (kh w.params).In h₀) (N : News h₀ L s.heap ((e, excObj none tp) :: r)) (hne : ∀ p ∈ r, p.1 ≠ e) (hrest : rest.length ≤ sizeLine)
    (h : ∀ t2 h', Fr h₀ L h' m → News h₀ L h' ((e, excObj none t2) :: (t2, { cls := .type "tuple", data := .seq rest.toArray }) :: r) → (∀ p ∈ (e, excObj none tp) :: r, p.1 < t2) → Q .none { s with heap := h' }) :
    wpAny (model prog w) A (call (.builtin "Exception.__init__") (.ref e :: rest)) Q E s := by
  have kf : kh w.params = kh w.params ∧ PySem.Challenge.rw_xm0635_01 = PySem.Challenge.rw_xm0635_01 := by k_fill; exact ⟨rfl, rfl⟩
  clear kf
  w_top off
  k_with_none
  k_with "subscriptTail Name Constant ref int" => (k_here; (with_reducible show wpAny _ _ (subscriptTail _ _ (Value.ref _) (Value.int _ _)) _ _ _); k_dflt (refine' item_at (IsL.isList (News.get (by k_asm) (by k_mem))) (by decide) (by decide) (by rfl) ?_ (by with_unfolding_all rfl); k_whole))
  k_with "binaryOp FloorDiv int int" => (refine PyProof.Rows.floordiv_int (by omega) ?_)
  k_with "binaryOp Mod int int" => (refine PyProof.Rows.mod_int (by omega) ?_)
  k_with "unf" => repeat' (first | ((fail_if_success (first | (with_reducible show wpAny _ _ (exec (Stmt.While _ _ _ _) _) _ _ _) | (with_reducible show WEnd _ _ _ _ _ _ _ _ _) | (with_reducible show REnd _ _ _ _ _ _ _ _ _) | (with_reducible show Mine.WDone _ _ _ _ _ _ _ _) | (with_reducible show Mine.CPost _ _ _ _ _ _ _ _) | (with_reducible show wpAny _ _ (pyIter _) (fun it s₂ => LoopAtV _ _ _ _ _ _ _ _ _ it s₂) _ _))); first | (k_unfold; (try dsimp only)) | (k_end; wrow_close) | walk1 | (dsimp only; walk1) | (leave1; walk_say "STEP leave1"; try dsimp only)) | fail "no step")
  k_with "WPost" => dsimp only [WPost]
  k_with "RPost" => dsimp only [RPost]
  k_with "exec For Name Call cons nil" => (k_here; (rename Fr _ _ _ _ => lF'); (with_unfolding_all refine' For_invVF lF' (by exact rfl) (by exact rfl) ?_; k_whole))
  k_with "exec For Name Subscript cons nil" => (k_here; (rename Fr _ _ _ _ => lF'); (with_unfolding_all refine' For_invVF lF' (by exact rfl) (by exact rfl) ?_; k_whole))
  k_with "tb1" => (repeat' (first | exact trivial | refine FrAg.cons (by rfl) ?_))
  k_with "tb2" => first | (intro y hy; simp only [List.forall_mem_cons] at hy; simp [lk_cons, hy]; done) | (intro y hx hy; simp only [List.forall_mem_cons] at hy; simp [lk_cons, hx, hy]; done)
  k_with "pick" => first | exact Pick.head (by k_all) | exact Pick.tail (by k_ne) (by kwd_rel)
  k_with "units" => (have hcL9 := cLine_is; (try simp only [units_under_make, units_in1, units_deeper, Around.mark_units, units_caller] at *); (try dsimp only [ktrTop] at *); omega)
  k_with "om" => (with_reducible (first | (show (_ : Int) ≤ _; first | exact lo_of (by first | assumption | exact And.left (by assumption)) (by decide) | exact hi_of1 (by first | assumption | exact And.right (by assumption)) (by decide) | exact hi_of2 (by first | assumption | exact And.right (by assumption)) (by decide) | exact lo_pos (by assumption) (by decide) | exact And.left (by assumption)) | (show (_ : Int) < _; first | exact And.right (by assumption) | exact hi_of3 (by first | assumption | exact And.right (by assumption)) (by decide) | exact hi_of4 (by first | assumption | exact And.right (by assumption)) (by decide) | exact lo_lt (by first | assumption | exact And.left (by assumption)) (by decide)) | (show (_ : Nat) < _; first | exact room2 (by assumption) (by decide) | exact room1 (by assumption) (by decide) | exact room0 (by assumption) | exact nhi_of3 (by assumption) (by decide) | exact nhi_of4 (by assumption) (by decide)) | (show (_ : Nat) ≤ _; first | exact nhi_of2 (by assumption) (by decide) | exact nhi_of1 (by assumption) (by decide)) | (show @Ne Nat _ _; first | exact Ne.symm (by assumption) | exact Nat.ne_of_gt (by first | assumption | exact And.left (by assumption) | exact And.left (And.right (by assumption)) | exact And.left (And.right (And.right (by assumption))) | exact And.left (And.right (And.right (And.right (by assumption))))) | exact Nat.ne_of_lt (by first | assumption | exact And.left (by assumption) | exact And.left (And.right (by assumption)) | exact And.left (And.right (And.right (by assumption))) | exact And.left (And.right (And.right (And.right (by assumption)))))) | (show _ ∧ _; exact And.intro (by omega) (by omega))))
  have X := X₀.keeps F.keep
  have BF := PySem.F.excBase_Exception
  obtain ⟨hp, g, d, t, os⟩ := s
  refine' wpAny_call (codeAny_call_builtin BF.init.plain BF.initEntry (fault_init_check (X _ _ ?e44) (N _ (.head _)).1 rfl ?_))
  case e44 => k_is
  have N' := N.push F { cls := .type "tuple", data := .seq rest.toArray }
  have F' := F.push { cls := .type "tuple", data := .seq rest.toArray }
  have he' : (hp.push { cls := .type "tuple", data := .seq rest.toArray }).get? e = some (excObj none tp) := (N' _ (.tail _ (.head _))).1
  wp_walk
  have hlt : ∀ p ∈ (e, excObj none tp) :: r, p.1 < hp.objs.size := fun p hp => Heap.lt_size (N p hp).1
  have U := news_upd (pre := [(hp.objs.size, { cls := .type "tuple", data := .seq rest.toArray })]) (f := Obj.mapFields (·.setIfInBounds 0 (Value.ref hp.objs.size))) (o' := excObj none hp.objs.size) F' N' (by
    intro p hp; rw [List.mem_singleton.mp hp]; exact Nat.ne_of_gt (hlt _ (.head _))) hne rfl rfl
  refine h hp.objs.size _ U.1 (News_sub U.2 ?_) hlt
  intro p hp
  simp only [List.mem_append, List.mem_cons, List.not_mem_nil, or_false] at hp ⊢
  rcases hp with a | a | a
  · exact .inr (.inl a)
  · exact .inl a
  · exact .inr (.inr a)
end
end Mine
namespace Mine
section
variable {prog : Program} {w : World} {A : Around} {E : Value → Shared → Prop} {s : Shared} {h₀ : Heap} {L : PySem.Addr} {m : PySem.Str → Option Value} {news : Obs}
theorem refuse44 (self : Value) : refuseLoop self "__setattr__" [.ref 44, .ref 31, .type "Exception", .type "BaseException", .type "object"] = pure () := by
  rw [refuseLoop_ref, refuseLoop_ref]
  kernel_rfl

theorem exc_store {e tp : PySem.Addr} {v : Value} {r : Obs} {Q : Unit → Shared → Prop} (F : Fr h₀ L s.heap m) (X₀ : (kh w.params).In h₀) (N : News h₀ L s.heap ((e, excObj none tp) :: r)) (hne : ∀ p ∈ r, p.1 ≠ e)
    (h : ∀ d od h' tk', Fr h₀ L h' m → News h₀ L h' ((d, od) :: (e, excObj (some d) tp) :: r) → (∀ p ∈ (e, excObj none tp) :: r, p.1 < d) → Q () { s with heap := h', toks := tk' }) :
    wpAny (model prog w) A (setAttr (.ref e) "message" v) Q E s := by
  have kf : kh w.params = kh w.params ∧ PySem.Challenge.rw_xm0635_01 = PySem.Challenge.rw_xm0635_01 := by k_fill; exact ⟨rfl, rfl⟩
  clear kf
  w_top off
  k_with_none
  k_with "subscriptTail Name Constant ref int" => (k_here; (with_reducible show wpAny _ _ (subscriptTail _ _ (Value.ref _) (Value.int _ _)) _ _ _); k_dflt (refine' item_at (IsL.isList (News.get (by k_asm) (by k_mem))) (by decide) (by decide) (by rfl) ?_ (by with_unfolding_all rfl); k_whole))
  k_with "binaryOp FloorDiv int int" => (refine PyProof.Rows.floordiv_int (by omega) ?_)
  k_with "binaryOp Mod int int" => (refine PyProof.Rows.mod_int (by omega) ?_)
  k_with "unf" => repeat' (first | ((fail_if_success (first | (with_reducible show wpAny _ _ (exec (Stmt.While _ _ _ _) _) _ _ _) | (with_reducible show WEnd _ _ _ _ _ _ _ _ _) | (with_reducible show REnd _ _ _ _ _ _ _ _ _) | (with_reducible show Mine.WDone _ _ _ _ _ _ _ _) | (with_reducible show Mine.CPost _ _ _ _ _ _ _ _) | (with_reducible show wpAny _ _ (pyIter _) (fun it s₂ => LoopAtV _ _ _ _ _ _ _ _ _ it s₂) _ _))); first | (k_unfold; (try dsimp only)) | (k_end; wrow_close) | walk1 | (dsimp only; walk1) | (leave1; walk_say "STEP leave1"; try dsimp only)) | fail "no step")
  k_with "WPost" => dsimp only [WPost]
  k_with "RPost" => dsimp only [RPost]
  k_with "exec For Name Call cons nil" => (k_here; (rename Fr _ _ _ _ => lF'); (with_unfolding_all refine' For_invVF lF' (by exact rfl) (by exact rfl) ?_; k_whole))
  k_with "exec For Name Subscript cons nil" => (k_here; (rename Fr _ _ _ _ => lF'); (with_unfolding_all refine' For_invVF lF' (by exact rfl) (by exact rfl) ?_; k_whole))
  k_with "tb1" => (repeat' (first | exact trivial | refine FrAg.cons (by rfl) ?_))
  k_with "tb2" => first | (intro y hy; simp only [List.forall_mem_cons] at hy; simp [lk_cons, hy]; done) | (intro y hx hy; simp only [List.forall_mem_cons] at hy; simp [lk_cons, hx, hy]; done)
  k_with "pick" => first | exact Pick.head (by k_all) | exact Pick.tail (by k_ne) (by kwd_rel)
  k_with "units" => (have hcL9 := cLine_is; (try simp only [units_under_make, units_in1, units_deeper, Around.mark_units, units_caller] at *); (try dsimp only [ktrTop] at *); omega)
  k_with "om" => (with_reducible (first | (show (_ : Int) ≤ _; first | exact lo_of (by first | assumption | exact And.left (by assumption)) (by decide) | exact hi_of1 (by first | assumption | exact And.right (by assumption)) (by decide) | exact hi_of2 (by first | assumption | exact And.right (by assumption)) (by decide) | exact lo_pos (by assumption) (by decide) | exact And.left (by assumption)) | (show (_ : Int) < _; first | exact And.right (by assumption) | exact hi_of3 (by first | assumption | exact And.right (by assumption)) (by decide) | exact hi_of4 (by first | assumption | exact And.right (by assumption)) (by decide) | exact lo_lt (by first | assumption | exact And.left (by assumption)) (by decide)) | (show (_ : Nat) < _; first | exact room2 (by assumption) (by decide) | exact room1 (by assumption) (by decide) | exact room0 (by assumption) | exact nhi_of3 (by assumption) (by decide) | exact nhi_of4 (by assumption) (by decide)) | (show (_ : Nat) ≤ _; first | exact nhi_of2 (by assumption) (by decide) | exact nhi_of1 (by assumption) (by decide)) | (show @Ne Nat _ _; first | exact Ne.symm (by assumption) | exact Nat.ne_of_gt (by first | assumption | exact And.left (by assumption) | exact And.left (And.right (by assumption)) | exact And.left (And.right (And.right (by assumption))) | exact And.left (And.right (And.right (And.right (by assumption))))) | exact Nat.ne_of_lt (by first | assumption | exact And.left (by assumption) | exact And.left (And.right (by assumption)) | exact And.left (And.right (And.right (by assumption))) | exact And.left (And.right (And.right (And.right (by assumption)))))) | (show _ ∧ _; exact And.intro (by omega) (by omega))))
  have X := X₀.keeps F.keep
  have I : InstAt s.heap e (excObj none tp) 44 none := ⟨(N _ (.head _)).1, rfl, rfl, trivial⟩
  refine' set_plain X I ?es ?_
  case es => k_is
  have hmI : mroIn (kh w.params) 44 (.type "object") = some true := by k_is
  have sub : Looks (model prog w) s.heap (isInstance (.ref e) (.type "object")) true := I.type.andThen (looks_mroIn X hmI)
  have SF := PySem.F.store_object
  refine codeAny_call_builtin SF.slot.plain SF.entry (@check_slot (model prog w) _ _ _ "object.__setattr__" "object" "__setattr__" (.ref e) [.str "message" s.toks, v] [] _ SF.kind SF.split (sub.keeps fun _ _ q => q) (SF.args (.ref e) (.str "message" s.toks) v) ?_)
  have hcl : clsIn (kh w.params) 44 = some { name := PySem.Str.ofString "SheetFault", bases := [.ref 31], mro := [.ref 44, .ref 31, .type "Exception", .type "BaseException", .type "object"], ns := 43, qualname := PySem.Str.ofString "SheetFault" } := by k_is
  have hfi : findIn (kh w.params) (.ref 44) "message" = some none := by k_is
  have hm : Looks (model prog w) s.heap (mroOf (.ref 44)) [.ref 44, .ref 31, .type "Exception", .type "BaseException", .type "object"] := (looks_clsIn X hcl).andThen .now
  rw [osa_eq, refuse_eq]
  have kp : ∀ b o, s.heap.get? b = some o → s.heap.get? b = some o := fun _ _ q => q
  refine wpAny_bind (wpAny_bind (I.type _ _ _ _ kp (wpAny_bind (hm _ _ _ _ kp ?_))))
  rw [refuse44]
  refine wpAny_pure (wpAny_bind (I.type _ _ _ _ kp (wpAny_bind (looks_findIn X hfi _ _ _ _ kp (wpAny_bind (wpAny_pure ?_))))))
  dsimp only
  refine wpAny_bind (wpAny_pure (wpAny_bind (wpAny_bind (wpAny_loadPart (N _ (.head _)).1 (wpAny_bind (looks_clsIn X hcl _ _ _ _ kp ?_))))))
  show wpAny _ _ ((alloc emptyDict >>= fun d => update e (fun o => { o with dict := some d }) >>= fun _ => (pure (some d) : Sem (Option PySem.Addr)))) _ _ _
  have N1 := N.push F emptyDict
  have F1 := F.push emptyDict
  have hlt : ∀ p ∈ (e, excObj none tp) :: r, p.1 < s.heap.objs.size := fun p hp => Heap.lt_size (N p hp).1
  refine wpAny_bind (wpAny_alloc (wpAny_bind (wpAny_update (N1 _ (.tail _ (.head _))).1 (wpAny_pure ?_))))
  have U := news_upd (pre := [(s.heap.objs.size, emptyDict)]) (f := fun o => { o with dict := some s.heap.objs.size }) (o' := excObj (some s.heap.objs.size) tp) F1 N1 (by
    intro p hp; rw [List.mem_singleton.mp hp]; exact Nat.ne_of_gt (hlt _ (.head _))) hne rfl rfl
  dsimp only
  unfold Builtin.ObjectAttr.storeInDict
  refine wpAny_bind (wpAny_pure (wpAny_bind ?_))
  unfold nsSet
  have D := (U.2 (s.heap.objs.size, emptyDict) (.head _)).1
  refine wpAny_bind (wpAny_bind (wpAny_askSetting (wpAny_pure (wpAny_bind (wpAny_mkText (wpAny_bind (wpAny_loadPart D ?_)))))))
  dsimp only
  have c : aRefKeyMayBeTheName (PySem.Str.ofString "message") #[] = false := by rw [aRefKeyMayBeTheName_at]; simp
  rw [c]
  refine wpAny_updatePart D ?_
  obtain ⟨U1, U2⟩ := news_upd (pre := []) (f := Obj.putName (PySem.Str.ofString "message") (PyData.keyHash w.params (PySem.Str.ofString "message")) (.str (PySem.Str.ofString "message") (s.toks + 1)) v) U.1 U.2 (fun _ h => nomatch h) (fun p hp => by
    rcases List.mem_cons.mp hp with rfl | hp
    · exact Nat.ne_of_lt (hlt (e, excObj none tp) (.head _))
    · exact Nat.ne_of_lt (hlt _ (.tail _ hp))) (putName_dict _ _ _ _ [] 0) rfl
  have D' := (U2 _ (.head _)).1
  refine wpAny_bind (wpAny_lookBehind D' (pastItsLine_dict (by rw [List.size_toArray, sizeLine_eq]; simp [putL])) ?_)
  exact wpAny_pure (h _ _ _ _ U1 U2 hlt)
end
end Mine
namespace Mine
theorem News_drop2 {h₀ h : Heap} {L : PySem.Addr} {a b : PySem.Addr × Obj} {r : Obs} (N : News h₀ L h (a :: b :: r)) : News h₀ L h (a :: r) := News_sub N fun p hp => by
  rcases List.mem_cons.mp hp with rfl | hp
  · exact .head _
  · exact .tail _ (.tail _ hp)
theorem meta_exc : typeOf (.type "Exception") = pure (.type "type") := by unfold typeOf; kernel_rfl
section
variable {prog : Program} {w : World} {A : Around} {E : Value → Shared → Prop} {s : Shared} {h₀ : Heap} {L : PySem.Addr} {m : PySem.Str → Option Value} {news r : Obs}
theorem exc_init_use {e tp : PySem.Addr} {rest : List Value} {Q : Value → Shared → Prop} (F : Fr h₀ L s.heap m) (X₀ : (kh w.params).In h₀) (N : News h₀ L s.heap news) (pk : Pick e (excObj none tp) news r) (hrest : rest.length ≤ sizeLine)
    (h : ∀ t2 h', Fr h₀ L h' m → News h₀ L h' ((e, excObj none t2) :: r) → Q .none { s with heap := h' }) :
    wpAny (model prog w) A (call (.builtin "Exception.__init__") (.ref e :: rest)) Q E s :=
  exc_init F X₀ (News_sub N pk.sub) pk.ne hrest fun t2 h' F' N' _ => h t2 h' F' (News_sub N' fun p hp => by
    rcases List.mem_cons.mp hp with rfl | hp
    · exact .head _
    · exact .tail _ (.tail _ hp))
theorem exc_store_use {e tp : PySem.Addr} {v : Value} {Q : Unit → Shared → Prop} (F : Fr h₀ L s.heap m) (X₀ : (kh w.params).In h₀) (N : News h₀ L s.heap news) (pk : Pick e (excObj none tp) news r)
    (h : ∀ d h' tk', Fr h₀ L h' m → News h₀ L h' ((e, excObj (some d) tp) :: r) → Q () { s with heap := h', toks := tk' }) :
    wpAny (model prog w) A (setAttr (.ref e) "message" v) Q E s :=
  exc_store F X₀ (News_sub N pk.sub) pk.ne fun d od h' tk' F' N' _ => h d h' tk' F' (News_sub N' fun p hp => .tail _ hp)
end
end Mine
namespace Mine
theorem fault_con (w : World) (mean : ExcName → Option Value) (mg mb : PySem.Str → Option Value) (x : PySem.Str) (tx : PySem.Tok) (rest : Obs) :
    Con w mean mg mb 44 5 [.str x tx] rest
      (fun v news' => ∃ e d tp, v = .ref e ∧ (∀ p ∈ rest, p.1 ≠ e) ∧ news' = (e, excObj (some d) tp) :: rest) False := by
  have kf : kh w.params = kh w.params ∧ PySem.Challenge.rw_xm0635_01 = PySem.Challenge.rw_xm0635_01 := by k_fill; exact ⟨rfl, rfl⟩
  clear kf
  w_top off
  k_with_none
  k_with "subscriptTail Name Constant ref int" => (k_here; (with_reducible show wpAny _ _ (subscriptTail _ _ (Value.ref _) (Value.int _ _)) _ _ _); k_dflt (refine' item_at (IsL.isList (News.get (by k_asm) (by k_mem))) (by decide) (by decide) (by rfl) ?_ (by with_unfolding_all rfl); k_whole))
  k_with "binaryOp FloorDiv int int" => (refine PyProof.Rows.floordiv_int (by omega) ?_)
  k_with "binaryOp Mod int int" => (refine PyProof.Rows.mod_int (by omega) ?_)
  k_with "unf" => repeat' (first | ((fail_if_success (first | (with_reducible show wpAny _ _ (exec (Stmt.While _ _ _ _) _) _ _ _) | (with_reducible show WEnd _ _ _ _ _ _ _ _ _) | (with_reducible show REnd _ _ _ _ _ _ _ _ _) | (with_reducible show Mine.WDone _ _ _ _ _ _ _ _) | (with_reducible show Mine.CPost _ _ _ _ _ _ _ _) | (with_reducible show wpAny _ _ (pyIter _) (fun it s₂ => LoopAtV _ _ _ _ _ _ _ _ _ it s₂) _ _))); first | (k_unfold; (try dsimp only)) | (k_end; wrow_close) | walk1 | (dsimp only; walk1) | (leave1; walk_say "STEP leave1"; try dsimp only)) | fail "no step")
  k_with "WPost" => dsimp only [WPost]
  k_with "RPost" => dsimp only [RPost]
  k_with "exec For Name Call cons nil" => (k_here; (rename Fr _ _ _ _ => lF'); (with_unfolding_all refine' For_invVF lF' (by exact rfl) (by exact rfl) ?_; k_whole))
  k_with "exec For Name Subscript cons nil" => (k_here; (rename Fr _ _ _ _ => lF'); (with_unfolding_all refine' For_invVF lF' (by exact rfl) (by exact rfl) ?_; k_whole))
  k_with "tb1" => (repeat' (first | exact trivial | refine FrAg.cons (by rfl) ?_))
  k_with "tb2" => first | (intro y hy; simp only [List.forall_mem_cons] at hy; simp [lk_cons, hy]; done) | (intro y hx hy; simp only [List.forall_mem_cons] at hy; simp [lk_cons, hx, hy]; done)
  k_with "pick" => first | exact Pick.head (by k_all) | exact Pick.tail (by k_ne) (by kwd_rel)
  k_with "units" => (have hcL9 := cLine_is; (try simp only [units_under_make, units_in1, units_deeper, Around.mark_units, units_caller] at *); (try dsimp only [ktrTop] at *); omega)
  k_with "om" => (with_reducible (first | (show (_ : Int) ≤ _; first | exact lo_of (by first | assumption | exact And.left (by assumption)) (by decide) | exact hi_of1 (by first | assumption | exact And.right (by assumption)) (by decide) | exact hi_of2 (by first | assumption | exact And.right (by assumption)) (by decide) | exact lo_pos (by assumption) (by decide) | exact And.left (by assumption)) | (show (_ : Int) < _; first | exact And.right (by assumption) | exact hi_of3 (by first | assumption | exact And.right (by assumption)) (by decide) | exact hi_of4 (by first | assumption | exact And.right (by assumption)) (by decide) | exact lo_lt (by first | assumption | exact And.left (by assumption)) (by decide)) | (show (_ : Nat) < _; first | exact room2 (by assumption) (by decide) | exact room1 (by assumption) (by decide) | exact room0 (by assumption) | exact nhi_of3 (by assumption) (by decide) | exact nhi_of4 (by assumption) (by decide)) | (show (_ : Nat) ≤ _; first | exact nhi_of2 (by assumption) (by decide) | exact nhi_of1 (by assumption) (by decide)) | (show @Ne Nat _ _; first | exact Ne.symm (by assumption) | exact Nat.ne_of_gt (by first | assumption | exact And.left (by assumption) | exact And.left (And.right (by assumption)) | exact And.left (And.right (And.right (by assumption))) | exact And.left (And.right (And.right (And.right (by assumption))))) | exact Nat.ne_of_lt (by first | assumption | exact And.left (by assumption) | exact And.left (And.right (by assumption)) | exact And.left (And.right (And.right (by assumption))) | exact And.left (And.right (And.right (And.right (by assumption)))))) | (show _ ∧ _; exact And.intro (by omega) (by omega))))
  k_with "getMethod type:Exception" => (k_here; refine' method_type (by k_asm) (by k_asm) (by exact meta_exc) (by decide +kernel) (by k_dflt k_is) (by k_handed) ?_)
  k_with "call builtin:Exception.__init__" => (k_here; k_dflt (refine' exc_init_use (by k_asm) (by k_asm) (by k_asm) (by kwd_rel) (by size_fits) ?_; k_whole; intro t9 h9 F9 N9; (try k_sweep)))
  k_with "setAttr ref" => (k_here; k_dflt (refine' exc_store_use (by k_asm) (by k_asm) (by k_asm) (by kwd_rel) ?_; k_whole; intro d9 h9 tk9 F9 N9; (try k_sweep)))
  intro dp un gd cn cs ad ccd cl outer A₀ base h₀ L m s Q E B F X N T hk hd hu hret hexc
  refine fault_K F X N (by size_fits) ?_
  intro e tp h' F' N' l1 l2
  have l3 : ∀ p ∈ rest, p.1 ≠ e := fun p hp => Nat.ne_of_lt (Nat.lt_trans (l1 p hp) l2)
  k_lt2 l2
  k_dflt cell_enter
  ktr_unf
  (rename Fr h₀ _ _ _ => zF); (rename News h₀ _ _ _ => zN)
  exact hret _ _ _ _ ⟨_, _, _, rfl, l3, rfl⟩ zF (News_drop2 zN)
section
variable {w : World} {mean : ExcName → Option Value} {mg mb : PySem.Str → Option Value} {dp un : Nat} {gd : Option (List Code)} {cn : PySem.Str} {cs : Scope} {ad : PySem.Addr} {ccd : Value} {cl : List (PySem.Str × PySem.Addr)} {outer : List Env} {A₀ : Around} {base h₀ : Heap} {L : PySem.Addr} {m : PySem.Str → Option Value} {s : Shared} {Q E : Value → Shared → Prop}
theorem fault_use {x : PySem.Str} {tx : PySem.Tok} {news : Obs}
    (B : Below A₀ base outer h₀) (F : Fr h₀ L s.heap m) (X : (kh w.params).In h₀) (N : News h₀ L s.heap news) (T : TopV mean mg mb h₀) (hk : cs.kind = .function)
    (hd : dp + 5 < recursionLimit) (hu : un + 8 * 5 < cLine)
    (ret : ∀ (e d tp : PySem.Addr) (h' : Heap) (tk' : Nat), (∀ p ∈ news, p.1 ≠ e) → Fr h₀ L h' m → News h₀ L h' ((e, excObj (some d) tp) :: news) → Q (.ref e) { s with heap := h', toks := tk' }) :
    wpAny (model PySem.Challenge.rw_xm0635_01.row.prog w) (ktrTop dp un gd cn cs L ad ccd cl outer) (call (.ref 44) [.str x tx]) Q E s :=
  fault_con w mean mg mb x tx news dp un gd cn cs ad ccd cl outer A₀ base h₀ L m s Q E B F X N T hk hd hu
    (by
      rintro v news' h' tk' ⟨e, d, tp, rfl, hn, rfl⟩ F' N'
      exact ret e d tp h' tk' hn F' N')
    (fun _ _ _ _ h => h.elim)
end
end Mine
namespace Mine
section
variable {M : Model} {A : Around} {E : Value → Shared → Prop} {s : Shared} {env : Env} {K : Frag}
def FRaisable (K : Frag) (E : Value → Shared → Prop) (v : Value) (s₁ : Shared) : Prop :=
  ∃ e d tp, v = .ref e ∧ K.In s₁.heap ∧ s₁.heap.get? e = some (excObj (some d) tp) ∧ E (.ref e) s₁
theorem fault_raiseStmt {x : Sem Value} {Q : Flow → Shared → Prop} (hh : A.handled = none) (hmro : mroIn K 44 (.type "BaseException") = some true) (hty : typeIn K (.ref 44) = some (.type "type"))
    (h : wpAny M A x (fun v s₁ => FRaisable K E v s₁) E s) :
    wpAny M A (raiseStmt env (some x) none) Q E s := by
  unfold raiseStmt
  refine wpAny_bind (wpAny_mono h (fun v s₁ h₁ => ?_) fun _ _ x => x)
  obtain ⟨e, d, tp, rfl, X, he, hE⟩ := h₁
  obtain ⟨hp, g, dr, tk, os⟩ := s₁
  have L1 : Looks M hp (isSubtype (excObj (some d) tp).cls (.type "BaseException")) true := looks_mroIn (M := M) X hmro
  have L2 : Looks M hp (typeOf (.ref 44)) (.type "type") := looks_typeIn (M := M) X hty
  repeat (first | with_reducible refine wpAny_loadPart_at he ?_ | with_reducible refine L2.at ?_ | with_reducible refine L1.at ?_ | wp_step)
  exact wpAny_raiseNew_none hh hE
theorem fault_Raise {h₁ : Heap} {x : PySem.Expr} {pos : Pos} {Q : Flow → Shared → Prop} (zX0 : K.In h₁) (hh : A.handled = none) (hmro : mroIn K 44 (.type "BaseException") = some true) (hty : typeIn K (.ref 44) = some (.type "type"))
    (h : wpAny M A (eval x env) (fun v s₁ => FRaisable K E v s₁) E s) : wpAny M A (exec (.Raise (some x) none pos) env) Q E s := by
  rw [arm_exec_Raise]
  show wpAny M A (do standAt pos; raiseStmt env (some (do let v ← eval x env; standAt pos; pure v)) none) Q E s
  exact wpAny_bind (wpAny_standAt (fault_raiseStmt hh hmro hty (wpAny_bind (wpAny_mono h (fun v s₁ h₁ => wpAny_bind (wpAny_standAt (wpAny_pure h₁))) fun _ _ x => x))))
theorem FRaisable.intro {h₀ : Heap} {L e d tp : PySem.Addr} {m : PySem.Str → Option Value} {news : Obs} (F : Fr h₀ L s.heap m) (X : K.In h₀) (N : News h₀ L s.heap ((e, excObj (some d) tp) :: news)) (h : E (.ref e) s) : FRaisable K E (.ref e) s :=
  ⟨e, d, tp, rfl, X.keeps F.keep, (N _ (.head _)).1, h⟩
end
section
variable {M : Model} {A : Around} {E : Value → Shared → Prop} {s' : Shared} {base g : Heap} {outer : List Env} {L a e d tp : PySem.Addr} {m : PySem.Str → Option Value} {name : PySem.Str} {scope : Scope} {cd : Value} {Q : Unit → Shared → Prop} {news : Obs}
theorem leave_fault (K : Below A base outer g) (F : Fr g L s'.heap m) (N : News g L s'.heap ((e, excObj (some d) tp) :: news)) (hne : ∀ p ∈ news, p.1 ≠ e)
    (hQ : ∀ h', RaisedSN base g outer e (.ref 44) news h' → g.UpToSlots h' → Q () { s' with heap := h' }) (hk : scope.kind = .function := by rfl) :
    wpAny M (A.deeper (envOf name scope L a cd)) (leaving (envOf name scope L a cd) (.ref e)) Q E s' := by
  have K' := K.push (name := name) (a := a) (cd := cd) F hk
  have he := N _ (.head _)
  have hin : ∀ env ∈ (envOf name scope L a cd :: outer), ∀ b, env.frame = some b → b ∈ e :: (envOf name scope L a cd :: outer).filterMap (·.frame) := fun env he b hb => .tail _ (List.mem_filterMap.mpr ⟨env, he, hb⟩)
  have st : base.StaysIn (hideAll s'.heap (e :: (envOf name scope L a cd :: outer).filterMap (·.frame))) := fun b o q => hideAll_get _ (K'.stays b o q) fun hm => by
    rcases List.mem_cons.mp hm with rfl | hm
    · rw [fresh_of_stays K.stays he.2.2] at q; cases q
    · rw [(K'.frames.mem hm).1] at q; cases q
  have sg : ∀ b o, g.get? b = some o → b ∉ outer.filterMap (·.frame) → (hideAll s'.heap (e :: (envOf name scope L a cd :: outer).filterMap (·.frame))).get? b = some o := fun b o q nm => hideAll_get _ (F.keep b o q) fun hm => by
    rcases List.mem_cons.mp hm with rfl | hm
    · rw [he.2.2] at q; cases q
    rcases kts_mem hm with z | z
    · rw [z, kts_self F] at q
      cases q
    · exact nm z
  have hl : ∀ q ∈ news, (hideAll s'.heap (e :: (envOf name scope L a cd :: outer).filterMap (·.frame))).get? q.1 = some q.2 ∧ g.get? q.1 = none ∧ base.get? q.1 = none := fun q hq => by
    have Nq := N q (.tail _ hq)
    refine ⟨hideAll_get _ Nq.1 fun hm => ?_, Nq.2.2, fresh_of_stays K.stays Nq.2.2⟩
    rcases List.mem_cons.mp hm with hm | hm
    · exact hne q hq hm
    obtain ⟨env, he, hf⟩ := List.mem_filterMap.mp hm
    rcases List.mem_cons.mp he with rfl | he
    · exact Nq.2.1 (Option.some.inj hf).symm
    · obtain ⟨o, ho, _⟩ := (K.frames.mem (List.mem_filterMap.mpr ⟨env, he, hf⟩)).2
      rw [Nq.2.2] at ho; cases ho
  have hen : (hideAll s'.heap (e :: (envOf name scope L a cd :: outer).filterMap (·.frame))).get? e = none := hideAll_none _ (.head _)
  refine wpAny_leaving_firstW (a0 := .ref tp) K'.stack (funFrames_hide K'.frames hin) rfl he.1 (fun b o hb => of_hideAll _ hb) hen rfl rfl rfl fun h' hL => ?_
  obtain ⟨k1, ⟨_, _, k2⟩, k3, k4⟩ := hL
  exact hQ h' ⟨_, .ref tp, st, sg, hl, k1, hen, k2, k3⟩ ((Heap.UpToSlots.of_keeps F.keep).trans k4)
end
theorem RaisedSN_sub {base G h : Heap} {l : List Env} {e : PySem.Addr} {cls : Value} {news news' : Obs} (R : RaisedSN base G l e cls news h) (hs : ∀ p ∈ news', p ∈ news) : RaisedSN base G l e cls news' h := by
  obtain ⟨B, a0, h1, h2, h3, h4⟩ := R
  exact ⟨B, a0, h1, h2, fun q hq => h3 q (hs q hq), h4⟩
end Mine
namespace Mine
open PySem.Builtin.Str in
theorem occ_one (x : PySem.Str) (c : Nat) : (occurrences x ⟨#[c]⟩ 0 x.length 1).isEmpty = !decide (c ∈ sg x) := PyProof.Rows.empty_one x c
def twoIn (a b : Nat) : List Nat → Bool
  | x :: y :: r => (x == a && y == b) || twoIn a b (y :: r)
  | _ => false
theorem twoIn_iff (a b : Nat) : ∀ l : List Nat, twoIn a b l = true ↔ ∃ i, (l.drop i).take 2 = [a, b]
  | [] => by simp [twoIn]
  | [x] => by
    simp only [twoIn, Bool.false_eq_true, false_iff, not_exists]
    intro i h
    have := congrArg List.length h
    simp at this
    omega
  | x :: y :: r => by
    rw [twoIn, Bool.or_eq_true, twoIn_iff a b (y :: r)]
    constructor
    · rintro (h | ⟨i, h⟩)
      · refine ⟨0, ?_⟩
        simp only [Bool.and_eq_true, beq_iff_eq] at h
        simp [h.1, h.2]
      · exact ⟨i + 1, by simpa using h⟩
    · rintro ⟨i, h⟩
      cases i with
      | zero =>
        left
        simp at h
        simp [h.1, h.2]
      | succ i => exact .inr ⟨i, by simpa using h⟩
open PySem.Builtin.Str in
theorem occ_two (x : PySem.Str) (a b : Nat) : (occurrences x ⟨#[a, b]⟩ 0 x.length 1).isEmpty = !twoIn a b (sg x) := by
  have h := StrLaws.found_iff x ⟨#[a, b]⟩
  have e : (∃ i, i + (⟨#[a, b]⟩ : PySem.Str).length ≤ x.length ∧ subAt x ⟨#[a, b]⟩ i = true) ↔ twoIn a b (sg x) = true := by
    rw [twoIn_iff]
    constructor
    · rintro ⟨i, h1, h2⟩
      refine ⟨i, ?_⟩
      rw [StrLaws.subAt_eq] at h2
      exact beq_iff_eq.mp h2
    · rintro ⟨i, h2⟩
      refine ⟨i, ?_, ?_⟩
      · have := congrArg List.length h2
        rw [List.length_take, List.length_drop, sg_len] at this
        show i + 2 ≤ x.length
        simp at this
        omega
      · rw [StrLaws.subAt_eq]
        exact beq_iff_eq.mpr h2
  rw [e] at h
  cases hb : twoIn a b (sg x) with
  | true => rw [hb] at h; simpa using h.mpr rfl
  | false =>
    rw [hb] at h
    cases hq : (occurrences x ⟨#[a, b]⟩ 0 x.length 1).isEmpty with
    | true => rfl
    | false => rw [hq] at h; exact absurd (h.mp rfl) (by simp)
/-- what check_digits refuses -/
def picBad (x y : List Nat) : Bool := twoIn 48 35 x || twoIn 35 48 y || decide (46 ∈ y) || decide (44 ∈ y) || decide (x ++ y = []) || decide (1000 < x.length + y.length)
theorem str_beq_empty (x : PySem.Str) : (x == PySem.Str.ofString "") = decide (sg x = []) := by
  rw [empty_tx, Bool.eq_iff_iff, beq_iff_eq, decide_eq_true_eq]
  constructor
  · rintro rfl; rw [sg_tx]
  · intro h; exact sg_inj (by rw [h, sg_tx])
theorem lit_0h : PySem.Str.ofString "0#" = ⟨#[48, 35]⟩ := by decide +kernel
theorem lit_h0 : PySem.Str.ofString "#0" = ⟨#[35, 48]⟩ := by decide +kernel
theorem lit_dot : PySem.Str.ofString "." = ⟨#[46]⟩ := by decide +kernel
theorem lit_comma : PySem.Str.ofString "," = ⟨#[44]⟩ := by decide +kernel
end Mine
namespace Mine
theorem chk_con (w : World) (mean : ExcName → Option Value) (mg mb : PySem.Str → Option Value) (x y : PySem.Str) (tx ty : PySem.Tok) (rest : Obs)
    (hx : x.length ≤ 2000) (hy : y.length ≤ 2000) :
    Con w mean mg mb 74 10 [.str x tx, .str y ty] rest
      (fun v news' => v = .none ∧ picBad (sg x) (sg y) = false ∧ news' = rest) (picBad (sg x) (sg y) = true) := by
  have kf : kh w.params = kh w.params ∧ PySem.Challenge.rw_xm0635_01 = PySem.Challenge.rw_xm0635_01 := by k_fill; exact ⟨rfl, rfl⟩
  clear kf
  w_top off
  k_with_none
  k_with "subscriptTail Name Constant ref int" => (k_here; (with_reducible show wpAny _ _ (subscriptTail _ _ (Value.ref _) (Value.int _ _)) _ _ _); k_dflt (refine' item_at (IsL.isList (News.get (by k_asm) (by k_mem))) (by decide) (by decide) (by rfl) ?_ (by with_unfolding_all rfl); k_whole))
  k_with "binaryOp FloorDiv int int" => (refine PyProof.Rows.floordiv_int (by omega) ?_)
  k_with "binaryOp Mod int int" => (refine PyProof.Rows.mod_int (by omega) ?_)
  k_with "unf" => repeat' (first | ((fail_if_success (first | (with_reducible show wpAny _ _ (exec (Stmt.While _ _ _ _) _) _ _ _) | (with_reducible show WEnd _ _ _ _ _ _ _ _ _) | (with_reducible show REnd _ _ _ _ _ _ _ _ _) | (with_reducible show Mine.WDone _ _ _ _ _ _ _ _) | (with_reducible show Mine.CPost _ _ _ _ _ _ _ _) | (with_reducible show wpAny _ _ (pyIter _) (fun it s₂ => LoopAtV _ _ _ _ _ _ _ _ _ it s₂) _ _))); first | (k_unfold; (try dsimp only)) | (k_end; wrow_close) | walk1 | (dsimp only; walk1) | (leave1; walk_say "STEP leave1"; try dsimp only)) | fail "no step")
  k_with "WPost" => dsimp only [WPost]
  k_with "RPost" => dsimp only [RPost]
  k_with "exec For Name Call cons nil" => (k_here; (rename Fr _ _ _ _ => lF'); (with_unfolding_all refine' For_invVF lF' (by exact rfl) (by exact rfl) ?_; k_whole))
  k_with "exec For Name Subscript cons nil" => (k_here; (rename Fr _ _ _ _ => lF'); (with_unfolding_all refine' For_invVF lF' (by exact rfl) (by exact rfl) ?_; k_whole))
  k_with "tb1" => (repeat' (first | exact trivial | refine FrAg.cons (by rfl) ?_))
  k_with "tb2" => first | (intro y hy; simp only [List.forall_mem_cons] at hy; simp [lk_cons, hy]; done) | (intro y hx hy; simp only [List.forall_mem_cons] at hy; simp [lk_cons, hx, hy]; done)
  k_with "pick" => first | exact Pick.head (by k_all) | exact Pick.tail (by k_ne) (by kwd_rel)
  k_with "units" => (have hcL9 := cLine_is; (try simp only [units_under_make, units_in1, units_deeper, Around.mark_units, units_caller] at *); (try dsimp only [ktrTop] at *); omega)
  k_with "om" => (with_reducible (first | (show (_ : Int) ≤ _; first | exact lo_of (by first | assumption | exact And.left (by assumption)) (by decide) | exact hi_of1 (by first | assumption | exact And.right (by assumption)) (by decide) | exact hi_of2 (by first | assumption | exact And.right (by assumption)) (by decide) | exact lo_pos (by assumption) (by decide) | exact And.left (by assumption)) | (show (_ : Int) < _; first | exact And.right (by assumption) | exact hi_of3 (by first | assumption | exact And.right (by assumption)) (by decide) | exact hi_of4 (by first | assumption | exact And.right (by assumption)) (by decide) | exact lo_lt (by first | assumption | exact And.left (by assumption)) (by decide)) | (show (_ : Nat) < _; first | exact room2 (by assumption) (by decide) | exact room1 (by assumption) (by decide) | exact room0 (by assumption) | exact nhi_of3 (by assumption) (by decide) | exact nhi_of4 (by assumption) (by decide)) | (show (_ : Nat) ≤ _; first | exact nhi_of2 (by assumption) (by decide) | exact nhi_of1 (by assumption) (by decide)) | (show @Ne Nat _ _; first | exact Ne.symm (by assumption) | exact Nat.ne_of_gt (by first | assumption | exact And.left (by assumption) | exact And.left (And.right (by assumption)) | exact And.left (And.right (And.right (by assumption))) | exact And.left (And.right (And.right (And.right (by assumption))))) | exact Nat.ne_of_lt (by first | assumption | exact And.left (by assumption) | exact And.left (And.right (by assumption)) | exact And.left (And.right (And.right (by assumption))) | exact And.left (And.right (And.right (And.right (by assumption)))))) | (show _ ∧ _; exact And.intro (by omega) (by omega))))
  k_with "call ref" => (k_here; (with_reducible show wpAny _ _ (call (Value.ref 44) _) _ _ _); k_dflt (refine' fault_use (by k_asm) (by k_asm) (by k_asm) (by k_asm) (by k_asm) (by first | exact rfl | assumption) (by ktr_room) (by ktr_units) ?_; k_whole; intro e9 d9 tp9 h9 tk9 hn9 F9 N9; (try k_sweep)))
  k_with "exec Raise some none" => (k_here; k_dflt (refine' fault_Raise (by k_asm) (by rfl) (by k_is) (by k_is) ?_; k_whole))
  k_with "FRaisable" => (k_dflt (refine' FRaisable.intro (by k_asm) (by k_asm) (by k_asm) ?_; k_whole); (try k_unfold); (try dsimp only))
  k_with "leaving ref" => (k_here; k_dflt (refine' leave_fault (by k_asm) (by k_asm) (by k_asm) (by first | assumption | k_all) ?_; k_whole; intro h9 R9 U9; (try dsimp only at R9 U9 ⊢)))
  intro dp un gd cn cs ad ccd cl outer A₀ base h₀ L m s Q E B F X N T hk hd hu hret hexc
  refine wpAny_call ?_
  k_dflt cell_enter
  (rename Fr _ _ _ _ => lF); replace lF : Fr _ _ _ (fun y' => List.lookup y' [(PySem.Str.ofString "rest", .str y ty), (PySem.Str.ofString "whole", .str x tx)]) := lF
  ktr_unf
  all_goals simp only [lit_0h, lit_h0, lit_dot, lit_comma, occ_one, occ_two, str_beq_empty, sg_append, len_append] at *
  all_goals (first
    | ((rename RaisedSN _ _ _ _ _ _ _ => zR); (rename Heap.UpToSlots _ _ => zU); (rename Fr h₀ _ _ _ => zF); refine hexc _ _ _ _ ?_ zF zR zU; simp only [picBad, sg_len, Bool.or_eq_true, decide_eq_true_eq]; (try simp only [Bool.not_eq_true', Bool.not_eq_false', decide_eq_true_eq, decide_eq_false_iff_not] at *); (first | (simp only [*, true_or, or_true]; done) | omega))
    | ((rename Fr h₀ _ _ _ => zF); (rename News h₀ _ _ _ => zN); refine hret _ _ _ _ ⟨rfl, ?_, rfl⟩ zF zN; simp only [picBad, sg_len, Bool.or_eq_false_iff, decide_eq_false_iff_not]; (try simp only [Bool.not_eq_true', Bool.not_eq_false', decide_eq_true_eq, decide_eq_false_iff_not] at *); refine ⟨⟨⟨⟨⟨?_, ?_⟩, ?_⟩, ?_⟩, ?_⟩, ?_⟩ <;> first | assumption | omega))
end Mine
namespace Mine
theorem count_sg (x : PySem.Str) (c : Nat) : PySem.Txt.count x ⟨#[c]⟩ = (((sg x).count c : Nat) : Int) := by
  rw [PyProof.Rows.count_is]
  show PyProof.Rows.cnt c (sg x) = _
  induction sg x with
  | nil => rfl
  | cons n r ih =>
    rw [PyProof.Rows.cnt_cons, ih, List.count_cons]
    by_cases h : n = c
    · simp [h]; omega
    · simp [h]
theorem strike_sg (x : PySem.Str) (c : Nat) : sg (PySem.Txt.replace x ⟨#[c]⟩ ⟨#[]⟩) = (sg x).filter (· != c) := PyProof.Rows.replace_strikes x c
theorem first_split {c : Nat} : ∀ {l : List Nat} {i : Nat}, l[i]? = some c → (∀ k, k < i → l[k]? ≠ some c) → l.takeWhile (· != c) = l.take i ∧ l.dropWhile (· != c) = l.drop i
  | [], i, h, _ => by simp at h
  | a :: r, 0, h, _ => by
    have : a = c := by simpa using h
    simp [this]
  | a :: r, i + 1, h, hn => by
    have ha : a ≠ c := fun e => hn 0 (Nat.succ_pos _) (by simp [e])
    obtain ⟨h1, h2⟩ := first_split (l := r) (i := i) (by simpa using h) (fun k hk e => hn (k + 1) (Nat.succ_lt_succ hk) (by simpa using e))
    simp [ha, h1, h2]
theorem none_split {c : Nat} {l : List Nat} (h : c ∉ l) : l.takeWhile (· != c) = l ∧ l.dropWhile (· != c) = [] := by
  induction l with
  | nil => exact ⟨rfl, rfl⟩
  | cons a r ih =>
    have ha : a ≠ c := fun e => h (e ▸ .head _)
    obtain ⟨h1, h2⟩ := ih fun hm => h (.tail _ hm)
    simp [ha, h1, h2]
theorem part_sg (x : PySem.Str) (c : Nat) : sg (PySem.Txt.partition x ⟨#[c]⟩).1 = (sg x).takeWhile (· != c) ∧ sg (PySem.Txt.partition x ⟨#[c]⟩).2.2 = ((sg x).dropWhile (· != c)).drop 1 := by
  rcases PyProof.Rows.partition_whole x ⟨#[c]⟩ with ⟨hp, hn⟩ | ⟨i, hp, hi, hn⟩
  · have : c ∉ sg x := fun hm => by
      obtain ⟨i, hi⟩ := (PyProof.Rows.mem_iff_at x c).mp hm
      exact hn i hi
    obtain ⟨h1, h2⟩ := none_split this
    rw [hp, h1, h2]
    exact ⟨rfl, rfl⟩
  · have hi' := (StrLaws.subAt_one x c i).mp hi
    obtain ⟨h1, h2⟩ := first_split (l := sg x) hi' fun k hk e => hn k hk ((StrLaws.subAt_one x c k).mpr e)
    rw [hp, h1, h2]
    constructor
    · show sg (PySem.Builtin.Str.strSub x 0 i) = _
      unfold sg
      rw [StrLaws.strSub_toList]; simp
    · show sg (PySem.Builtin.Str.strSub x (i + 1) x.length) = _
      unfold sg
      rw [StrLaws.strSub_toList, List.drop_drop]
      rw [List.take_of_length_le]
      · rw [List.length_drop]; rw [show x.cps.toList.length = x.length from sg_len x]; omega
/-- the signs behind the last comma -/
def tailLen (l : List Nat) : Nat := if 44 ∈ l then (l.reverse.takeWhile (· != 44)).length else 0
theorem tailLen_at {l : List Nat} {i : Nat} (h : l[i]? = some 44) (hn : ∀ k, i < k → l[k]? ≠ some 44) : (tailLen l : Int) = l.length - i - 1 := by
  have hi : i < l.length := (List.getElem?_eq_some_iff.mp h).1
  have hm : 44 ∈ l := List.mem_of_getElem? h
  have hd : 44 ∉ l.drop (i + 1) := fun hm => by
    obtain ⟨j, hj⟩ := List.mem_iff_getElem?.mp hm
    rw [List.getElem?_drop] at hj
    exact hn _ (by omega) hj
  have hr : 44 ∉ (l.drop (i + 1)).reverse := fun q => hd (List.mem_reverse.mp q)
  have e : l = l.take i ++ 44 :: l.drop (i + 1) := by
    have : l.drop i = 44 :: l.drop (i + 1) := by
      rw [List.drop_eq_getElem_cons hi]
      congr 1
      have := List.getElem?_eq_getElem hi
      rw [this] at h
      exact Option.some.inj h
    rw [← this, List.take_append_drop]
  unfold tailLen
  rw [if_pos hm]
  have e2 : l.reverse.takeWhile (· != 44) = (l.drop (i + 1)).reverse := by
    conv => lhs; rw [e]
    rw [List.reverse_append, List.reverse_cons, List.append_assoc, List.takeWhile_append_of_pos]
    · simp
    · intro a ha; simp; exact fun q => hr (q ▸ ha)
  rw [e2, List.length_reverse, List.length_drop]
  omega
section
variable {prog : Program} {w : World} {A : Around} {E : Value → Shared → Prop} {s : Shared}
theorem rindex_rule {x : PySem.Str} {c : Nat} {t u : PySem.Tok} {Q : Value → Shared → Prop} (hin : c ∈ sg x)
    (h : ∀ i : Nat, (sg x)[i]? = some c → (∀ k, i < k → (sg x)[k]? ≠ some c) → Q (.int i s.toks) { s with toks := s.toks + 1 }) :
    wpAny (model prog w) A (call (.builtin "str.rindex") [.str x t, .str ⟨#[c]⟩ u]) Q E s := by
  rcases StrLaws.last_spec x ⟨#[c]⟩ with ⟨_, hn⟩ | ⟨i, hl, hi, hn⟩
  · obtain ⟨i, hi⟩ := (PyProof.Rows.mem_iff_at x c).mp hin
    exact absurd hi (hn i)
  · exact call_gives PySem.F.slot_str_rindex (typeIs_str _ _ _) PySem.F.entry_str_rindex (PySem.F.args_str_rindex_2 _ _) (gives_str_rindex x ⟨#[c]⟩ t u i hl)
      (h i ((StrLaws.subAt_one x c i).mp hi) fun k hk e => hn k hk ((StrLaws.subAt_one x c k).mpr e))
theorem rindex_ruleY {x y : PySem.Str} {c : Nat} {t u : PySem.Tok} {Q : Value → Shared → Prop} (hy : y = ⟨#[c]⟩) (hin : (PySem.Builtin.Str.occurrences x y 0 x.length 1).isEmpty = false)
    (h : ∀ i : Nat, (sg x)[i]? = some c → (∀ k, i < k → (sg x)[k]? ≠ some c) → Q (.int i s.toks) { s with toks := s.toks + 1 }) :
    wpAny (model prog w) A (call (.builtin "str.rindex") [.str x t, .str y u]) Q E s := by
  subst hy
  rw [occ_one] at hin
  exact rindex_rule (by simpa using hin) h
end
end Mine
section
namespace Mine
section
variable {w : World} {mean : ExcName → Option Value} {mg mb : PySem.Str → Option Value} {dp un : Nat} {gd : Option (List Code)} {cn : PySem.Str} {cs : Scope} {ad : PySem.Addr} {ccd : Value} {cl : List (PySem.Str × PySem.Addr)} {outer : List Env} {A₀ : Around} {base h₀ : Heap} {L : PySem.Addr} {m : PySem.Str → Option Value} {s : Shared} {Q E : Value → Shared → Prop}
theorem chk_use {x y : PySem.Str} {tx ty : PySem.Tok} {news : Obs}
    (B : Below A₀ base outer h₀) (F : Fr h₀ L s.heap m) (X : (kh w.params).In h₀) (N : News h₀ L s.heap news) (T : TopV mean mg mb h₀) (hk : cs.kind = .function)
    (hd : dp + 10 < recursionLimit) (hu : un + 8 * 10 < cLine) (hx : x.length ≤ 2000) (hy : y.length ≤ 2000)
    (ret : ∀ (h' : Heap) (tk' : Nat), picBad (sg x) (sg y) = false → Fr h₀ L h' m → News h₀ L h' news → Q .none { s with heap := h', toks := tk' })
    (exc : ∀ e h' g' tk', picBad (sg x) (sg y) = true → Fr h₀ L g' m → RaisedSN base g' (envX cn cs L ad ccd cl :: outer) e (.ref 44) news h' → Heap.UpToSlots g' h' → E (.ref e) { s with heap := h', toks := tk' }) :
    wpAny (model PySem.Challenge.rw_xm0635_01.row.prog w) (ktrTop dp un gd cn cs L ad ccd cl outer) (call (.ref 74) [.str x tx, .str y ty]) Q E s :=
  chk_con w mean mg mb x y tx ty news hx hy dp un gd cn cs ad ccd cl outer A₀ base h₀ L m s Q E B F X N T hk hd hu
    (by
      rintro v news' h' tk' ⟨rfl, hb, rfl⟩ F' N'
      exact ret h' tk' hb F' N')
    exc
end
end Mine
local macro_rules | `(tactic| walk_at "leaving ref") => `(tactic| (k_here; k_dflt (refine' leave_onSN ?k1 ?k2 ?k3 ?k4 ?_; (case k3 => assumption); (case k2 => assumption); (case k1 => k_asm); (case k4 => assumption); k_whole; intro h9 R9 Rn9 U9; (try dsimp only at R9 U9 ⊢))))
namespace Mine
theorem News_tail {h₀ h : Heap} {L : PySem.Addr} {a : PySem.Addr × Obj} {r : Obs} (N : News h₀ L h (a :: r)) : News h₀ L h r := News_sub N fun p hp => .tail _ hp
abbrev whOf (l : List Nat) : List Nat := l.takeWhile (· != 46)
abbrev rtOf (l : List Nat) : List Nat := (l.dropWhile (· != 46)).drop 1
def facOf (l : List Nat) : Int := if 37 ∈ l then 100 else if 8240 ∈ l then 1000 else 1
/-- a picture's own names -/
inductive PicEs (x z : PySem.Str) (lw gr lr mr fa : Int) : List DictEntry → Prop
  | mk (h1 h2 h3 h4 h5 h6 h7 : Int) (k1 k2 k3 k4 k5 k6 k7 tx tz t3 t4 t5 t6 t7 : PySem.Tok) : PicEs x z lw gr lr mr fa [⟨h1, .str (PySem.Str.ofString "before") k1, .str x tx⟩, ⟨h2, .str (PySem.Str.ofString "after") k2, .str z tz⟩, ⟨h3, .str (PySem.Str.ofString "least_whole") k3, .int lw t3⟩,
    ⟨h4, .str (PySem.Str.ofString "group") k4, .int gr t4⟩, ⟨h5, .str (PySem.Str.ofString "least_rest") k5, .int lr t5⟩, ⟨h6, .str (PySem.Str.ofString "most_rest") k6, .int mr t6⟩, ⟨h7, .str (PySem.Str.ofString "factor") k7, .int fa t7⟩]
theorem lit_pc : PySem.Str.ofString "%" = ⟨#[37]⟩ := by decide +kernel
theorem lit_pm : PySem.Str.ofString "‰" = ⟨#[8240]⟩ := by decide +kernel
theorem lit_0 : PySem.Str.ofString "0" = ⟨#[48]⟩ := by decide +kernel
theorem lit_e : PySem.Str.ofString "" = ⟨#[]⟩ := by decide +kernel
theorem strike_len (x : PySem.Str) : (PySem.Txt.replace x (PySem.Str.ofString ",") (PySem.Str.ofString "")).length ≤ x.length := by
  rw [lit_comma, lit_e, ← sg_len, strike_sg, ← sg_len x]
  exact List.length_filter_le _ _
theorem pic_post {x y z : PySem.Str} {rest : Obs} {p dx : PySem.Addr} {lw gr lr mr fa h1 h2 h3 h4 h5 h6 h7 : Int} {k1 k2 k3 k4 k5 k6 k7 tx tz t3 t4 t5 t6 t7 : PySem.Tok}
    (l1 : ∀ q ∈ rest, q.1 < dx) (l2 : dx < p) (hb : picBad ((whOf (sg y)).filter (· != 44)) (rtOf (sg y)) = false) (e1 : lw = ((((whOf (sg y)).filter (· != 44)).count 48 : Nat) : Int)) (e2 : gr = tailLen (whOf (sg y))) (e3 : lr = (((rtOf (sg y)).count 48 : Nat) : Int)) (e4 : mr = (rtOf (sg y)).length) (e5 : fa = facOf (sg x ++ sg z)) :
    ∃ p' dx' es lw' gr' lr' mr' fa', Value.ref p = .ref p' ∧ PicEs x z lw' gr' lr' mr' fa' es ∧ ((p, instObj 63 dx) :: (dx, dictOf [⟨h1, .str (PySem.Str.ofString "before") k1, .str x tx⟩, ⟨h2, .str (PySem.Str.ofString "after") k2, .str z tz⟩, ⟨h3, .str (PySem.Str.ofString "least_whole") k3, .int lw t3⟩,
    ⟨h4, .str (PySem.Str.ofString "group") k4, .int gr t4⟩, ⟨h5, .str (PySem.Str.ofString "least_rest") k5, .int lr t5⟩, ⟨h6, .str (PySem.Str.ofString "most_rest") k6, .int mr t6⟩, ⟨h7, .str (PySem.Str.ofString "factor") k7, .int fa t7⟩] 7) :: rest : Obs) = (p', instObj 63 dx') :: (dx', dictOf es 7) :: rest ∧ (∀ q ∈ rest, q.1 < dx') ∧ dx' < p' ∧
        picBad ((whOf (sg y)).filter (· != 44)) (rtOf (sg y)) = false ∧ lw' = ((((whOf (sg y)).filter (· != 44)).count 48 : Nat) : Int) ∧ gr' = tailLen (whOf (sg y)) ∧ lr' = (((rtOf (sg y)).count 48 : Nat) : Int) ∧ mr' = (rtOf (sg y)).length ∧ fa' = facOf (sg x ++ sg z) :=
  ⟨_, _, _, _, _, _, _, _, rfl, ⟨_, _, _, _, _, _, _, _, _, _, _, _, _, _, _, _, _, _, _, _, _⟩, rfl, l1, l2, hb, e1, e2, e3, e4, e5⟩
theorem pic_con (w : World) (mean : ExcName → Option Value) (mg mb : PySem.Str → Option Value) (x y z : PySem.Str) (tx ty tz : PySem.Tok) (rest : Obs)
    (hx : x.length ≤ 1100) (hy : y.length ≤ 1100) (hz : z.length ≤ 1100) :
    Con w mean mg mb 63 20 [.str x tx, .str y ty, .str z tz] rest
      (fun v news' => ∃ p dx es lw gr lr mr fa, v = .ref p ∧ PicEs x z lw gr lr mr fa es ∧ news' = (p, instObj 63 dx) :: (dx, dictOf es 7) :: rest ∧ (∀ q ∈ rest, q.1 < dx) ∧ dx < p ∧
        picBad ((whOf (sg y)).filter (· != 44)) (rtOf (sg y)) = false ∧ lw = ((((whOf (sg y)).filter (· != 44)).count 48 : Nat) : Int) ∧ gr = tailLen (whOf (sg y)) ∧ lr = (((rtOf (sg y)).count 48 : Nat) : Int) ∧ mr = (rtOf (sg y)).length ∧ fa = facOf (sg x ++ sg z))
      (picBad ((whOf (sg y)).filter (· != 44)) (rtOf (sg y)) = true) := by
  have kf : kh w.params = kh w.params ∧ PySem.Challenge.rw_xm0635_01 = PySem.Challenge.rw_xm0635_01 := by k_fill; exact ⟨rfl, rfl⟩
  clear kf
  w_top off
  k_with_none
  k_with "subscriptTail Name Constant ref int" => (k_here; (with_reducible show wpAny _ _ (subscriptTail _ _ (Value.ref _) (Value.int _ _)) _ _ _); k_dflt (refine' item_at (IsL.isList (News.get (by k_asm) (by k_mem))) (by decide) (by decide) (by rfl) ?_ (by with_unfolding_all rfl); k_whole))
  k_with "binaryOp FloorDiv int int" => (refine PyProof.Rows.floordiv_int (by omega) ?_)
  k_with "binaryOp Mod int int" => (refine PyProof.Rows.mod_int (by omega) ?_)
  k_with "unf" => repeat' (first | ((fail_if_success (first | (with_reducible show wpAny _ _ (exec (Stmt.While _ _ _ _) _) _ _ _) | (with_reducible show WEnd _ _ _ _ _ _ _ _ _) | (with_reducible show REnd _ _ _ _ _ _ _ _ _) | (with_reducible show Mine.WDone _ _ _ _ _ _ _ _) | (with_reducible show Mine.CPost _ _ _ _ _ _ _ _) | (with_reducible show wpAny _ _ (pyIter _) (fun it s₂ => LoopAtV _ _ _ _ _ _ _ _ _ it s₂) _ _))); first | (k_unfold; (try dsimp only)) | (k_end; wrow_close) | walk1 | (dsimp only; walk1) | (leave1; walk_say "STEP leave1"; try dsimp only)) | fail "no step")
  k_with "WPost" => dsimp only [WPost]
  k_with "RPost" => dsimp only [RPost]
  k_with "exec For Name Call cons nil" => (k_here; (rename Fr _ _ _ _ => lF'); (with_unfolding_all refine' For_invVF lF' (by exact rfl) (by exact rfl) ?_; k_whole))
  k_with "exec For Name Subscript cons nil" => (k_here; (rename Fr _ _ _ _ => lF'); (with_unfolding_all refine' For_invVF lF' (by exact rfl) (by exact rfl) ?_; k_whole))
  k_with "tb1" => (repeat' (first | exact trivial | refine FrAg.cons (by rfl) ?_))
  k_with "tb2" => first | (intro y hy; simp only [List.forall_mem_cons] at hy; simp [lk_cons, hy]; done) | (intro y hx hy; simp only [List.forall_mem_cons] at hy; simp [lk_cons, hx, hy]; done)
  k_with "pick" => first | exact Pick.head (by k_all) | exact Pick.tail (by k_ne) (by kwd_rel)
  k_with "units" => (have hcL9 := cLine_is; (try simp only [units_under_make, units_in1, units_deeper, Around.mark_units, units_caller] at *); (try dsimp only [ktrTop] at *); omega)
  k_with "om" => (with_reducible (first | (show (_ : Int) ≤ _; first | exact lo_of (by first | assumption | exact And.left (by assumption)) (by decide) | exact hi_of1 (by first | assumption | exact And.right (by assumption)) (by decide) | exact hi_of2 (by first | assumption | exact And.right (by assumption)) (by decide) | exact lo_pos (by assumption) (by decide) | exact And.left (by assumption)) | (show (_ : Int) < _; first | exact And.right (by assumption) | exact hi_of3 (by first | assumption | exact And.right (by assumption)) (by decide) | exact hi_of4 (by first | assumption | exact And.right (by assumption)) (by decide) | exact lo_lt (by first | assumption | exact And.left (by assumption)) (by decide)) | (show (_ : Nat) < _; first | exact room2 (by assumption) (by decide) | exact room1 (by assumption) (by decide) | exact room0 (by assumption) | exact nhi_of3 (by assumption) (by decide) | exact nhi_of4 (by assumption) (by decide)) | (show (_ : Nat) ≤ _; first | exact nhi_of2 (by assumption) (by decide) | exact nhi_of1 (by assumption) (by decide)) | (show @Ne Nat _ _; first | exact Ne.symm (by assumption) | exact Nat.ne_of_gt (by first | assumption | exact And.left (by assumption) | exact And.left (And.right (by assumption)) | exact And.left (And.right (And.right (by assumption))) | exact And.left (And.right (And.right (And.right (by assumption))))) | exact Nat.ne_of_lt (by first | assumption | exact And.left (by assumption) | exact And.left (And.right (by assumption)) | exact And.left (And.right (And.right (by assumption))) | exact And.left (And.right (And.right (And.right (by assumption)))))) | (show _ ∧ _; exact And.intro (by omega) (by omega))))
  k_with "call ref" => (k_here; (with_reducible show wpAny _ _ (call (Value.ref 74) _) _ _ _); k_dflt (refine' chk_use (by k_asm) (by k_asm) (by k_asm) (by k_asm) (by k_asm) (by first | exact rfl | assumption) (by ktr_room) (by ktr_units) (by omega) (by omega) ?_ ?_; (all_goals (first | (intro e9 h9 g9 tk9 hb9 G9 (R9 : RaisedSN _ _ _ _ _ _ _) U9; (try k_unfold); (try dsimp only)) | (intro h9 tk9 hb9 F9 N9; (try k_sweep))))))
  k_with "call builtin:str.rindex" => (k_here; refine rindex_ruleY lit_comma (by assumption) ?_; intro i9 hi9 hj9)
  k_with "execs cons" => (k_here; (fail_if_success (refine' gen_toks (by with_reducible assumption) ?_)); refine' gen_toks (by omega) ?_; intro tk9 htk9)
  intro dp un gd cn cs ad ccd cl outer A₀ base h₀ L m s Q E B F X N T hk hd hu hret hexc
  k_dflt (refine' call_cls ?k1 ?k2 ?k3 ?k4 ?k5 ?k6 ?_; (case k1 => k_asm); (case k2 => k_asm); (case k3 => k_asm); (case k4 => k_is); (case k5 => k_is); (case k6 => k_is); k_whole; intro x' d' h' F' N' l1 l2)
  have l3 : ∀ p ∈ rest, p.1 ≠ d' := fun p hp => Nat.ne_of_lt (l1 p hp)
  have l4 : ∀ p ∈ rest, p.1 ≠ x' := fun p hp => Nat.ne_of_lt (Nat.lt_trans (l1 p hp) l2)
  k_lt2 l2
  have hp := fact_partition y (PySem.Str.ofString ".")
  have hp1 := hp.1
  have hp2 := hp.2.2
  k_dflt cell_enter
  (rename Fr _ _ _ _ => lF); replace lF : Fr _ _ _ (fun y' => List.lookup y' [(PySem.Str.ofString "after", .str z tz), (PySem.Str.ofString "body", .str y ty), (PySem.Str.ofString "before", .str x tx), (PySem.Str.ofString "self", .ref x')]) := lF
  ktr_unf
  (rename News _ _ _ ((_, _) :: (x', _) :: _) => lN); replace lN := News_tail lN
  have hp3 := strike_len (PySem.Txt.partition y (PySem.Str.ofString ".")).1
  have hw : sg (PySem.Txt.partition y (PySem.Str.ofString ".")).1 = whOf (sg y) := by rw [lit_dot]; exact (part_sg y 46).1
  have hr : sg (PySem.Txt.partition y (PySem.Str.ofString ".")).2.2 = rtOf (sg y) := by rw [lit_dot]; exact (part_sg y 46).2
  have hs : sg (PySem.Txt.replace (PySem.Txt.partition y (PySem.Str.ofString ".")).1 (PySem.Str.ofString ",") (PySem.Str.ofString "")) = (whOf (sg y)).filter (· != 44) := by rw [← hw, lit_comma, lit_e, strike_sg]
  have hlw : PySem.Txt.count (PySem.Txt.replace (PySem.Txt.partition y (PySem.Str.ofString ".")).1 (PySem.Str.ofString ",") (PySem.Str.ofString "")) (PySem.Str.ofString "0") = ((((whOf (sg y)).filter (· != 44)).count 48 : Nat) : Int) := by rw [lit_0, count_sg, hs]
  have hlr : PySem.Txt.count (PySem.Txt.partition y (PySem.Str.ofString ".")).2.2 (PySem.Str.ofString "0") = (((rtOf (sg y)).count 48 : Nat) : Int) := by rw [lit_0, count_sg, hr]
  have hmr : ((PySem.Txt.partition y (PySem.Str.ofString ".")).2.2.length : Int) = (rtOf (sg y)).length := by rw [← sg_len, hr]
  have hb1 : ∀ b, picBad (sg (PySem.Txt.replace (PySem.Txt.partition y (PySem.Str.ofString ".")).1 (PySem.Str.ofString ",") (PySem.Str.ofString ""))) (sg (PySem.Txt.partition y (PySem.Str.ofString ".")).2.2) = b → picBad ((whOf (sg y)).filter (· != 44)) (rtOf (sg y)) = b := fun b h => by rw [hs, hr] at h; exact h
  have hg0 : (PySem.Builtin.Str.occurrences (PySem.Txt.partition y (PySem.Str.ofString ".")).1 (PySem.Str.ofString ",") 0 (PySem.Txt.partition y (PySem.Str.ofString ".")).1.length 1).isEmpty = true → (0 : Int) = tailLen (whOf (sg y)) := fun zo => by
    rw [lit_comma, occ_one, hw] at zo
    simp only [Bool.not_eq_true', decide_eq_false_iff_not] at zo
    unfold tailLen; rw [if_neg zo]; rfl
  have hg1 : ∀ i : Nat, (sg (PySem.Txt.partition y (PySem.Str.ofString ".")).1)[i]? = some 44 → (∀ k, i < k → (sg (PySem.Txt.partition y (PySem.Str.ofString ".")).1)[k]? ≠ some 44) → ((PySem.Txt.partition y (PySem.Str.ofString ".")).1.length : Int) - i - 1 = tailLen (whOf (sg y)) := fun i z1 z2 => by
    rw [hw] at z1 z2; rw [tailLen_at z1 z2, ← sg_len, hw]
  have hf1 : (PySem.Builtin.Str.occurrences (x ++ z) (PySem.Str.ofString "%") 0 (x ++ z).length 1).isEmpty = false → (100 : Int) = facOf (sg x ++ sg z) := fun h => by
    rw [lit_pc, occ_one, sg_append] at h; simp only [Bool.not_eq_false', decide_eq_true_eq] at h; rw [facOf, if_pos h]
  have hf2 : (PySem.Builtin.Str.occurrences (x ++ z) (PySem.Str.ofString "%") 0 (x ++ z).length 1).isEmpty = true → (PySem.Builtin.Str.occurrences (x ++ z) (PySem.Str.ofString "‰") 0 (x ++ z).length 1).isEmpty = false → (1000 : Int) = facOf (sg x ++ sg z) := fun h h' => by
    rw [lit_pc, occ_one, sg_append] at h; rw [lit_pm, occ_one, sg_append] at h'; simp only [Bool.not_eq_false', Bool.not_eq_true', decide_eq_true_eq, decide_eq_false_iff_not] at h h'; rw [facOf, if_neg h, if_pos h']
  have hf3 : (PySem.Builtin.Str.occurrences (x ++ z) (PySem.Str.ofString "%") 0 (x ++ z).length 1).isEmpty = true → (PySem.Builtin.Str.occurrences (x ++ z) (PySem.Str.ofString "‰") 0 (x ++ z).length 1).isEmpty = true → (1 : Int) = facOf (sg x ++ sg z) := fun h h' => by
    rw [lit_pc, occ_one, sg_append] at h; rw [lit_pm, occ_one, sg_append] at h'; simp only [Bool.not_eq_false', Bool.not_eq_true', decide_eq_true_eq, decide_eq_false_iff_not] at h h'; rw [facOf, if_neg h, if_neg h']
  ktr_unf
  all_goals try dsimp only [InitBack]
  all_goals try ((rename RaisedSN _ _ _ _ _ _ _ => zR); (rename Heap.UpToSlots _ _ => zU); (rename Fr h₀ _ _ _ => zF); exact hexc _ _ _ _ (hb1 _ (by assumption)) zF (RaisedSN_sub zR fun p hp => .tail _ (.tail _ hp)) zU)
  all_goals try ((rename Fr h₀ _ _ _ => zF); (rename News h₀ _ _ _ => zN); refine hret _ _ _ _ (pic_post l1 l2 (hb1 _ (by assumption)) hlw ?_ hlr hmr ?_) zF zN)
  all_goals try (first | exact hg0 (by assumption) | exact hg1 _ (by assumption) (by assumption) | exact hf1 (by assumption) | exact hf2 (by assumption) (by assumption) | exact hf3 (by assumption) (by assumption))
end Mine

end
namespace Mine
section
variable {prog : Program} {w : World} {A : Around} {E : Value → Shared → Prop} {Q : Flow → Shared → Prop} {s : Shared} {env : Env} {h₀ : Heap} {x : PySem.Str} {body : List Stmt}
theorem text_own {xt : PySem.Str} {tx : PySem.Tok} {m₀ : PySem.Str → Option Value} {news : Obs} {σ : Type} (f : σ → PySem.Str → Option Value) (led : σ → Obs) (P : Nat → σ → Prop) (adr : List PySem.Addr) (c₀ : σ)
    (hh : A.handled = none) (F : Fr h₀ env.locals s.heap m₀) (N : News h₀ env.locals s.heap news) (e₀ : ∀ y, y ≠ x → m₀ y = f c₀ y) (n₀ : ∀ p ∈ led c₀, p ∈ news) (hadr : ∀ c, (led c).map (·.1) = adr) (hp : P 0 c₀)
    (turn : ∀ i n c h tk t own, (sg xt)[i]? = some n → P i c → OwnOff own adr → Fr h₀ env.locals h (fun y => if y = x then some (.str ⟨#[n]⟩ t) else f c y) → News h₀ env.locals h (led c ++ own) →
      wpAny (model prog w) A (execs body env) (RPost h₀ env.locals { s with heap := h, toks := tk } x f led own (P (i + 1)) Q) E { s with heap := h, toks := tk })
    (done : ∀ u c h tk, P xt.length c → Fr h₀ env.locals h (fun y => if y = x then u else f c y) → News h₀ env.locals h (led c) → Q .next { s with heap := h, toks := tk }) :
    wpAny (model prog w) A (pyIter (.str xt tx)) (fun it s₂ => LoopAtV prog w A h₀ env x body Q E it s₂) E s := by
  have ef : ∀ (v : Option Value) (m : PySem.Str → Option Value) c, (∀ y, y ≠ x → m y = f c y) → ∀ y, (if y = x then v else m y) = if y = x then v else f c y := by
    intro v m c h y
    by_cases hy : y = x
    · rw [if_pos hy, if_pos hy]
    · rw [if_neg hy, if_neg hy, h y hy]
  have N := News_sub N n₀
  refine wpAny_pyIter_str fun o St hW hst => ?_
  have W := hW A hh
  refine loop_invN (fun i m nx => ∃ c, nx = led c ∧ P i c ∧ ∀ y, y ≠ x → m y = f c y) W ?_ ?_ ?_ ?_ hst (F.push _) (fun p hp => ⟨Heap.get?_push_of_some _ (N p hp).1, (N p hp).2⟩) ⟨c₀, rfl, hp, e₀⟩ ?_ ?_
  · intro hm
    exact absurd F.ns.lt ((List.mem_singleton.mp hm) ▸ Nat.lt_irrefl _)
  · intro b hb
    rw [List.mem_singleton.mp hb]
    exact next_is_new F
  · intro p hp hI
    exact absurd (Heap.lt_size (N p hp).1) ((List.mem_singleton.mp hI) ▸ Nat.lt_irrefl _)
  · intro p hp hI
    exact absurd (Heap.lt_size (N p hp).1) ((List.mem_singleton.mp hI) ▸ Nat.lt_irrefl _)
  · rintro i v m₁ nx h tk own hi ⟨n, u, hn, rfl⟩ _ hoff ⟨c, rfl, hP, he⟩ F₁ N₁
    rw [hadr] at hoff ⊢
    refine wpAny_mono (turn i n c h tk u own (by simpa [sg] using hn) hP hoff (Fr_as F₁ (ef _ _ _ he)) N₁) (fun fl s₂ q => ?_) fun _ _ x => x
    have fin : REnd h₀ env.locals { s with heap := h, toks := tk } x f led own (P (i + 1)) s₂ → InvEndN h₀ env.locals (fun m nx => ∃ c, nx = led c ∧ P (i + 1) c ∧ ∀ y, y ≠ x → m y = f c y) own adr { s with heap := h, toks := tk } s₂ := by
      rintro ⟨c', h', tk', m', rfl, F', e', N', hp'⟩
      exact ⟨h', tk', m', led c' ++ own, led c', rfl, F', N', fun p hp => List.mem_append_left _ hp, fun p hp => List.mem_append_right _ hp, hadr c', c', rfl, hp', e'⟩
    cases fl with
    | ret v => exact q
    | brk => exact q
    | next => exact fin q
    | cont => exact fin q
  · rintro m₁ nx h tk ⟨c, rfl, hP, he⟩ F₁ N₁
    refine done (m₁ x) c h tk hP (Fr_as F₁ fun y => ?_) N₁
    by_cases hy : y = x
    · rw [if_pos hy, hy]
    · rw [if_neg hy, he y hy]
end
section
variable {prog : Program} {w : World} {A : Around} {E : Value → Shared → Prop} {Q : Flow → Shared → Prop} {s : Shared} {env : Env} {h₀ : Heap} {L : PySem.Addr}
def WDone {σ : Type} (h₀ : Heap) (L : PySem.Addr) (s : Shared) (f : σ → PySem.Str → Option Value) (led : σ → Obs) (D : σ → Prop) (c : σ) (s₂ : Shared) : Prop :=
  ∃ h' tk, s₂ = { s with heap := h', toks := tk } ∧ Fr h₀ L h' (f c) ∧ News h₀ L h' (led c) ∧ D c
theorem WDone.intro {σ : Type} {f : σ → PySem.Str → Option Value} {led : σ → Obs} {D : σ → Prop} {c : σ} {h' : Heap} {tk : Nat} (F : Fr h₀ L h' (f c)) (N : News h₀ L h' (led c)) (hd : D c) : WDone h₀ L s f led D c { s with heap := h', toks := tk } :=
  ⟨h', tk, rfl, F, N, hd⟩
theorem while_ownD {test : PySem.Expr} {body : List Stmt} {pos : Pos} {σ : Type} (f : σ → PySem.Str → Option Value) (led : σ → Obs) (P : σ → Prop) (μ : σ → Nat) (D : σ → Prop) (c₀ : σ) {m₀ : PySem.Str → Option Value} {news : Obs}
    (F : Fr h₀ L s.heap m₀) (N : News h₀ L s.heap news) (e₀ : ∀ y, m₀ y = f c₀ y) (n₀ : ∀ p ∈ led c₀, p ∈ news) (hp : P c₀)
    (turn : ∀ c h tk, P c → Fr h₀ L h (f c) → News h₀ L h (led c) →
      wpAny (model prog w) A (isTrue test env (eval test env)) (fun b s₂ => if b = true then wpAny (model prog w) A (execs body env) (WPost h₀ L s f led P μ Q c) E s₂ else WDone h₀ L s f led D c s₂) E { s with heap := h, toks := tk })
    (done : ∀ c h tk, D c → Fr h₀ L h (f c) → News h₀ L h (led c) → Q .next { s with heap := h, toks := tk })
    (hE : PassesOwn (model prog w) A env E) :
    wpAny (model prog w) A (exec (.While test body [] pos) env) Q E s :=
  while_own f led P μ c₀ F N e₀ n₀ hp (fun c h tk hc F' N' => wpAny_mono (turn c h tk hc F' N') (fun b s₂ q => by
    cases b with
    | true => simpa using q
    | false =>
      simp only [Bool.false_eq_true, if_false] at q ⊢
      obtain ⟨h', tk', rfl, F2, N2, hD⟩ := q
      exact done c h' tk' hD F2 N2) fun _ _ x => x) hE
end
/-- signs of a picture -/
def isS (c : Nat) : Bool := c == 35 || c == 48 || c == 44 || c == 46
theorem lit_signs : PySem.Str.ofString "#0,." = tx [35, 48, 44, 46] := by decide +kernel
theorem in_signs (n : Nat) : (PySem.Builtin.Str.occurrences (PySem.Str.ofString "#0,.") ⟨#[n]⟩ 0 (PySem.Str.ofString "#0,.").length 1).isEmpty = !isS n := by
  rw [occ_one, lit_signs, sg_tx, Bool.eq_iff_iff]
  simp [isS, and_assoc]
end Mine
section
local macro_rules | `(tactic| walk_at "no key at all") => `(tactic| skip)
namespace Mine
section
variable {w : World} {mean : ExcName → Option Value} {mg mb : PySem.Str → Option Value} {dp un : Nat} {gd : Option (List Code)} {cn : PySem.Str} {cs : Scope} {ad : PySem.Addr} {ccd : Value} {cl : List (PySem.Str × PySem.Addr)} {outer : List Env} {A₀ : Around} {base h₀ : Heap} {L : PySem.Addr} {m : PySem.Str → Option Value} {s : Shared} {Q E : Value → Shared → Prop}
theorem pic_use {x y z : PySem.Str} {tx ty tz : PySem.Tok} {news : Obs}
    (B : Below A₀ base outer h₀) (F : Fr h₀ L s.heap m) (X : (kh w.params).In h₀) (N : News h₀ L s.heap news) (T : TopV mean mg mb h₀) (hk : cs.kind = .function)
    (hd : dp + 20 < recursionLimit) (hu : un + 8 * 20 < cLine) (hx : x.length ≤ 1100) (hy : y.length ≤ 1100) (hz : z.length ≤ 1100)
    (ret : ∀ (p dx : PySem.Addr) es lw gr lr mr fa (h' : Heap) (tk' : Nat), PicEs x z lw gr lr mr fa es → (∀ q ∈ news, q.1 < dx) → dx < p →
        picBad ((whOf (sg y)).filter (· != 44)) (rtOf (sg y)) = false → lw = ((((whOf (sg y)).filter (· != 44)).count 48 : Nat) : Int) → gr = tailLen (whOf (sg y)) → lr = (((rtOf (sg y)).count 48 : Nat) : Int) → mr = (rtOf (sg y)).length → fa = facOf (sg x ++ sg z) →
        Fr h₀ L h' m → News h₀ L h' ((p, instObj 63 dx) :: (dx, dictOf es 7) :: news) → Q (.ref p) { s with heap := h', toks := tk' })
    (exc : ∀ e h' g' tk', picBad ((whOf (sg y)).filter (· != 44)) (rtOf (sg y)) = true → Fr h₀ L g' m → RaisedSN base g' (envX cn cs L ad ccd cl :: outer) e (.ref 44) news h' → Heap.UpToSlots g' h' → E (.ref e) { s with heap := h', toks := tk' }) :
    wpAny (model PySem.Challenge.rw_xm0635_01.row.prog w) (ktrTop dp un gd cn cs L ad ccd cl outer) (call (.ref 63) [.str x tx, .str y ty, .str z tz]) Q E s :=
  pic_con w mean mg mb x y z tx ty tz news hx hy hz dp un gd cn cs ad ccd cl outer A₀ base h₀ L m s Q E B F X N T hk hd hu
    (by
      rintro v news' h' tk' ⟨p, dx, es, lw, gr, lr, mr, fa, rfl, he, rfl, h1, h2, h3, h4, h5, h6, h7, h8⟩ F' N'
      exact ret p dx es lw gr lr mr fa h' tk' he h1 h2 h3 h4 h5 h6 h7 h8 F' N')
    exc
end
end Mine
local macro_rules | `(tactic| walk_at "leaving ref") => `(tactic| (k_here; k_dflt (refine' leave_onSN ?k1 ?k2 ?k3 ?k4 ?_; (case k3 => assumption); (case k2 => assumption); (case k1 => k_asm); (case k4 => assumption); k_whole; intro h9 R9 Rn9 U9; (try dsimp only at R9 U9 ⊢))))
namespace Mine
def bOf (l : List Nat) : List Nat := l.takeWhile (fun c => !isS c)
def rOf (l : List Nat) : List Nat := l.dropWhile (fun c => !isS c)
def mOf (l : List Nat) : List Nat := (rOf l).takeWhile isS
def cOf (l : List Nat) : List Nat := (rOf l).dropWhile isS
def rdBad (l : List Nat) : Bool := (cOf l).any isS || picBad ((whOf (mOf l)).filter (· != 44)) (rtOf (mOf l))
theorem not_sign {x : PySem.Str} {b : Int} (h0 : 0 ≤ b) (h1 : b < x.length) (ho : (PySem.Builtin.Str.occurrences (PySem.Str.ofString "#0,.") (PySem.Txt.item x b) 0 (PySem.Str.ofString "#0,.").length 1).isEmpty = true) : ∀ n, (sg x)[b.toNat]? = some n → isS n = false := fun n hn => by
  have e : PySem.Txt.item x b = ⟨#[n]⟩ := sg_inj (by rw [sg_item h0 h1, List.getD_eq_getElem?_getD, hn]; rfl)
  rw [e, in_signs] at ho
  simpa using ho
theorem is_sign {x : PySem.Str} {b : Int} (h0 : 0 ≤ b) (h1 : b < x.length) (ho : (PySem.Builtin.Str.occurrences (PySem.Str.ofString "#0,.") (PySem.Txt.item x b) 0 (PySem.Str.ofString "#0,.").length 1).isEmpty = false) : ∀ n, (sg x)[b.toNat]? = some n → isS n = true := fun n hn => by
  have e : PySem.Txt.item x b = ⟨#[n]⟩ := sg_inj (by rw [sg_item h0 h1, List.getD_eq_getElem?_getD, hn]; rfl)
  rw [e, in_signs] at ho
  simpa using ho
/-- a prefix of the good ones, then a bad one or the end -/
theorem tw_len {p : Nat → Bool} : ∀ {l : List Nat} {k : Nat}, k ≤ l.length → (∀ i, i < k → ∀ n, l[i]? = some n → p n = true) → (∀ n, l[k]? = some n → p n = false) → (l.takeWhile p).length = k
  | [], k, h, _, _ => by simp at h; simp [h]
  | a :: r, 0, _, _, h => by
    have : p a = false := h a rfl
    simp [this]
  | a :: r, k + 1, hk, h1, h2 => by
    have ha : p a = true := h1 0 (Nat.succ_pos _) a rfl
    have ih := tw_len (l := r) (k := k) (Nat.le_of_succ_le_succ hk) (fun i hi n hn => h1 (i + 1) (Nat.succ_lt_succ hi) n (by simpa using hn)) (fun n hn => h2 n (by simpa using hn))
    simp [ha, ih]
theorem toNat_of {b : Int} (h : 0 ≤ b) : ∃ k : Nat, b = k := Int.eq_ofNat_of_zero_le h
theorem bOf_at {x : PySem.Str} {b : Int} (h0 : 0 ≤ b) (h1 : b < x.length) (hP : ∀ i : Nat, (i : Int) < b → ∀ n, (sg x)[i]? = some n → isS n = false) (hn : ∀ n, (sg x)[b.toNat]? = some n → isS n = true) : b = (bOf (sg x)).length := by
  have := tw_len (p := fun c => !isS c) (l := sg x) (k := b.toNat) (by rw [sg_len]; omega) (fun i hi n h => by simp [hP i (by omega) n h]) (fun n h => by simp [hn n h])
  unfold bOf; omega
theorem bOf_all {x : PySem.Str} {b : Int} (h1 : b = x.length) (hP : ∀ i : Nat, (i : Int) < b → ∀ n, (sg x)[i]? = some n → isS n = false) : b = (bOf (sg x)).length := by
  have := tw_len (p := fun c => !isS c) (l := sg x) (k := x.length) (by rw [sg_len]; omega) (fun i hi n h => by simp [hP i (by omega) n h]) (fun n h => by rw [List.getElem?_eq_none (by rw [sg_len]; omega)] at h; cases h)
  unfold bOf; omega
theorem rOf_drop (l : List Nat) : rOf l = l.drop (bOf l).length := by
  have := List.takeWhile_append_dropWhile (p := fun c => !isS c) (l := l)
  have h2 : (bOf l ++ rOf l).drop (bOf l).length = rOf l := by simp
  rw [← h2]; unfold bOf rOf; rw [this]
theorem mOf_at {x : PySem.Str} {b e : Int} (hb : b = (bOf (sg x)).length) (h0 : b ≤ e) (h1 : e < x.length) (hP : ∀ i : Nat, b ≤ (i : Int) → (i : Int) < e → ∀ n, (sg x)[i]? = some n → isS n = true) (hn : ∀ n, (sg x)[e.toNat]? = some n → isS n = false) : e = b + (mOf (sg x)).length := by
  subst hb
  obtain ⟨e, rfl⟩ := Int.eq_ofNat_of_zero_le (Int.le_trans (Int.natCast_nonneg _) h0)
  have h0' := Int.ofNat_le.mp h0
  have h1' := Int.ofNat_lt.mp h1
  have hl : (rOf (sg x)).length = x.length - (bOf (sg x)).length := by rw [rOf_drop, List.length_drop, sg_len]
  have := tw_len (p := isS) (l := rOf (sg x)) (k := e - (bOf (sg x)).length) (by rw [hl]; exact Nat.sub_le_sub_right (Nat.le_of_lt h1') _) (fun i hi n h => by
    rw [rOf_drop, List.getElem?_drop] at h
    exact hP _ (Int.ofNat_le.mpr (Nat.le_add_right _ _)) (Int.ofNat_lt.mpr (Nat.add_lt_of_lt_sub' hi)) n h) (fun n h => by
    rw [rOf_drop, List.getElem?_drop, Nat.add_sub_cancel' h0'] at h
    exact hn n h)
  have h2 : (bOf (sg x)).length + (mOf (sg x)).length = e := by unfold mOf; rw [this]; exact Nat.add_sub_cancel' h0'
  exact congrArg Int.ofNat h2.symm
theorem mOf_all {x : PySem.Str} {b e : Int} (hb : b = (bOf (sg x)).length) (h0 : b ≤ e) (h1 : e = x.length) (hP : ∀ i : Nat, b ≤ (i : Int) → (i : Int) < e → ∀ n, (sg x)[i]? = some n → isS n = true) : e = b + (mOf (sg x)).length := by
  subst hb h1
  have h0' := Int.ofNat_le.mp h0
  have hl : (rOf (sg x)).length = x.length - (bOf (sg x)).length := by rw [rOf_drop, List.length_drop, sg_len]
  have := tw_len (p := isS) (l := rOf (sg x)) (k := x.length - (bOf (sg x)).length) (by rw [hl]; exact Nat.le_refl _) (fun i hi n h => by
    rw [rOf_drop, List.getElem?_drop] at h
    exact hP _ (Int.ofNat_le.mpr (Nat.le_add_right _ _)) (Int.ofNat_lt.mpr (Nat.add_lt_of_lt_sub' hi)) n h) (fun n h => by
    rw [rOf_drop, List.getElem?_drop, Nat.add_sub_cancel' h0', List.getElem?_eq_none (by rw [sg_len]; exact Nat.le_refl _)] at h; cases h)
  have h2 : (bOf (sg x)).length + (mOf (sg x)).length = x.length := by unfold mOf; rw [this]; exact Nat.add_sub_cancel' h0'
  exact congrArg Int.ofNat h2.symm
theorem cOf_drop (l : List Nat) : l.drop (((bOf l).length : Int) + ((mOf l).length : Nat)).toNat = cOf l := by
  have e : (((bOf l).length : Int) + ((mOf l).length : Nat)).toNat = (bOf l).length + (mOf l).length := by omega
  have := List.takeWhile_append_dropWhile (p := isS) (l := rOf l)
  have h2 : (mOf l ++ cOf l).drop (mOf l).length = cOf l := by simp
  rw [e, ← List.drop_drop, ← rOf_drop, ← h2]; unfold mOf cOf; rw [this]
theorem mOf_take (l : List Nat) : (l.drop ((bOf l).length : Int).toNat).take (((bOf l).length : Int) + ((mOf l).length : Nat) - ((bOf l).length : Nat)).toNat = mOf l := by
  have e : (((bOf l).length : Int) + ((mOf l).length : Nat) - ((bOf l).length : Nat)).toNat = (mOf l).length := by omega
  have := List.takeWhile_append_dropWhile (p := isS) (l := rOf l)
  have h2 : (mOf l ++ cOf l).take (mOf l).length = mOf l := by simp
  rw [e, Int.toNat_natCast, ← rOf_drop]
  have h3 : mOf l ++ cOf l = rOf l := this
  rw [← h3, h2]
theorem bOf_take (l : List Nat) : l.take ((bOf l).length : Int).toNat = bOf l := by
  have := List.takeWhile_append_dropWhile (p := fun c => !isS c) (l := l)
  have h2 : (bOf l ++ rOf l).take (bOf l).length = bOf l := by simp
  have h3 : bOf l ++ rOf l = l := this
  rw [Int.toNat_natCast]; rw [h3] at h2; exact h2
theorem rd_con (w : World) (mean : ExcName → Option Value) (mg mb : PySem.Str → Option Value) (x : PySem.Str) (tx : PySem.Tok) (rest : Obs)
    (hx : x.length ≤ 1100) :
    Con w mean mg mb 81 30 [.str x tx] rest
      (fun v news' => ∃ p dx es b z lw gr lr mr fa, v = .ref p ∧ PicEs b z lw gr lr mr fa es ∧ news' = (p, instObj 63 dx) :: (dx, dictOf es 7) :: rest ∧ (∀ q ∈ rest, q.1 < dx) ∧ dx < p ∧
        sg b = bOf (sg x) ∧ sg z = cOf (sg x) ∧ rdBad (sg x) = false ∧ lw = ((((whOf (mOf (sg x))).filter (· != 44)).count 48 : Nat) : Int) ∧ gr = tailLen (whOf (mOf (sg x))) ∧ lr = (((rtOf (mOf (sg x))).count 48 : Nat) : Int) ∧ mr = (rtOf (mOf (sg x))).length ∧ fa = facOf (bOf (sg x) ++ cOf (sg x)))
      (rdBad (sg x) = true) := by
  have kf : kh w.params = kh w.params ∧ PySem.Challenge.rw_xm0635_01 = PySem.Challenge.rw_xm0635_01 := by k_fill; exact ⟨rfl, rfl⟩
  clear kf
  w_top off
  k_with_none
  k_with "subscriptTail Name Constant ref int" => (k_here; (with_reducible show wpAny _ _ (subscriptTail _ _ (Value.ref _) (Value.int _ _)) _ _ _); k_dflt (refine' item_at (IsL.isList (News.get (by k_asm) (by k_mem))) (by decide) (by decide) (by rfl) ?_ (by with_unfolding_all rfl); k_whole))
  k_with "binaryOp FloorDiv int int" => (refine PyProof.Rows.floordiv_int (by omega) ?_)
  k_with "binaryOp Mod int int" => (refine PyProof.Rows.mod_int (by omega) ?_)
  k_with "unf" => repeat' (first | ((fail_if_success (first | (with_reducible show wpAny _ _ (exec (Stmt.While _ _ _ _) _) _ _ _) | (with_reducible show WEnd _ _ _ _ _ _ _ _ _) | (with_reducible show REnd _ _ _ _ _ _ _ _ _) | (with_reducible show Mine.WDone _ _ _ _ _ _ _ _) | (with_reducible show Mine.CPost _ _ _ _ _ _ _ _) | (with_reducible show wpAny _ _ (pyIter _) (fun it s₂ => LoopAtV _ _ _ _ _ _ _ _ _ it s₂) _ _))); first | (k_unfold; (try dsimp only)) | (k_end; wrow_close) | walk1 | (dsimp only; walk1) | (leave1; walk_say "STEP leave1"; try dsimp only)) | fail "no step")
  k_with "WPost" => dsimp only [WPost]
  k_with "RPost" => dsimp only [RPost]
  k_with "exec For Name Call cons nil" => (k_here; (rename Fr _ _ _ _ => lF'); (with_unfolding_all refine' For_invVF lF' (by exact rfl) (by exact rfl) ?_; k_whole))
  k_with "exec For Name Subscript cons nil" => (k_here; (rename Fr _ _ _ _ => lF'); (with_unfolding_all refine' For_invVF lF' (by exact rfl) (by exact rfl) ?_; k_whole))
  k_with "tb1" => (repeat' (first | exact trivial | refine FrAg.cons (by rfl) ?_))
  k_with "tb2" => first | (intro y hy; simp only [List.forall_mem_cons] at hy; simp [lk_cons, hy]; done) | (intro y hx hy; simp only [List.forall_mem_cons] at hy; simp [lk_cons, hx, hy]; done)
  k_with "pick" => first | exact Pick.head (by k_all) | exact Pick.tail (by k_ne) (by kwd_rel)
  k_with "units" => (have hcL9 := cLine_is; (try simp only [units_under_make, units_in1, units_deeper, Around.mark_units, units_caller] at *); (try dsimp only [ktrTop] at *); omega)
  k_with "om" => (with_reducible (first | (show (_ : Int) ≤ _; first | exact lo_of (by first | assumption | exact And.left (by assumption)) (by decide) | exact hi_of1 (by first | assumption | exact And.right (by assumption)) (by decide) | exact hi_of2 (by first | assumption | exact And.right (by assumption)) (by decide) | exact lo_pos (by assumption) (by decide) | exact And.left (by assumption)) | (show (_ : Int) < _; first | exact And.right (by assumption) | exact hi_of3 (by first | assumption | exact And.right (by assumption)) (by decide) | exact hi_of4 (by first | assumption | exact And.right (by assumption)) (by decide) | exact lo_lt (by first | assumption | exact And.left (by assumption)) (by decide)) | (show (_ : Nat) < _; first | exact room2 (by assumption) (by decide) | exact room1 (by assumption) (by decide) | exact room0 (by assumption) | exact nhi_of3 (by assumption) (by decide) | exact nhi_of4 (by assumption) (by decide)) | (show (_ : Nat) ≤ _; first | exact nhi_of2 (by assumption) (by decide) | exact nhi_of1 (by assumption) (by decide)) | (show @Ne Nat _ _; first | exact Ne.symm (by assumption) | exact Nat.ne_of_gt (by first | assumption | exact And.left (by assumption) | exact And.left (And.right (by assumption)) | exact And.left (And.right (And.right (by assumption))) | exact And.left (And.right (And.right (And.right (by assumption))))) | exact Nat.ne_of_lt (by first | assumption | exact And.left (by assumption) | exact And.left (And.right (by assumption)) | exact And.left (And.right (And.right (by assumption))) | exact And.left (And.right (And.right (And.right (by assumption)))))) | (show _ ∧ _; exact And.intro (by omega) (by omega))))
  k_with "call ref" => (k_here; (with_reducible show wpAny _ _ (call (Value.ref 44) _) _ _ _); k_dflt (refine' fault_use (by k_asm) (by k_asm) (by k_asm) (by k_asm) (by k_asm) (by first | exact rfl | assumption) (by ktr_room) (by ktr_units) ?_; k_whole; intro e9 d9 tp9 h9 tk9 hn9 F9 N9; (try k_sweep)))
  k_with "exec Raise some none" => (k_here; k_dflt (refine' fault_Raise (by k_asm) (by rfl) (by k_is) (by k_is) ?_; k_whole))
  k_with "FRaisable" => (k_dflt (refine' FRaisable.intro (by k_asm) (by k_asm) (by k_asm) ?_; k_whole); (try k_unfold); (try dsimp only))
  k_with "leaving ref" => (k_here; k_dflt (refine' leave_fault (by k_asm) (by k_asm) (by k_asm) (by first | assumption | k_all) ?_; k_whole; intro h9 R9 U9; (try dsimp only at R9 U9 ⊢)))
  k_with "call ref" => (k_here; (with_reducible show wpAny _ _ (call (Value.ref 63) _) _ _ _); k_dflt (refine' pic_use (by k_asm) (by k_asm) (by k_asm) (by k_asm) (by k_asm) (by first | exact rfl | assumption) (by ktr_room) (by ktr_units) (by omega) (by omega) (by omega) ?_ ?_; (all_goals (first | (intro e9 h9 g9 tk9 hb9 G9 (R9 : RaisedSN _ _ _ _ _ _ _) U9; (try k_unfold); (try dsimp only)) | (intro p9 d9 es9 lw9 gr9 lr9 mr9 fa9 h9 tk9 he9 l19 l29 hb9 q1 q2 q3 q4 q5 F9 N9; (try k_sweep))))))
  intro dp un gd cn cs ad ccd cl outer A₀ base h₀ L m s Q E B F X N T hk hd hu hret hexc
  refine wpAny_call ?_
  k_dflt cell_enter
  (rename Fr _ _ _ _ => lF); replace lF : Fr _ _ _ (fun y' => List.lookup y' [(PySem.Str.ofString "text", .str x tx)]) := lF
  ktr_unf
  (rename Fr _ _ _ _ => lF); (rename News _ _ _ _ => lN)
  have hxl := sg_len x
  -- the first loop: what stands ahead
  refine' while_ownD (σ := Int × PySem.Tok) (fun c y => List.lookup y [(PySem.Str.ofString "begin", .int c.1 c.2), (PySem.Str.ofString "text", .str x tx)]) (fun _ => rest)
      (fun c => 0 ≤ c.1 ∧ c.1 ≤ x.length ∧ ∀ i : Nat, (i : Int) < c.1 → ∀ n, (sg x)[i]? = some n → isS n = false) (fun c => x.length - c.1.toNat) (fun c => c.1 = (bOf (sg x)).length) (0, _) lF lN (fr_agree [PySem.Str.ofString "begin", PySem.Str.ofString "text"] ?z1 ?z2) ?z3 ?zp ?zt ?zd ?zE
  case z1 => tb_start
  case z2 => tb_rel
  case z3 => exact fun _ h => h
  case zp => exact ⟨Int.le_refl _, by omega, fun i hi => by dsimp only at hi; omega⟩
  case zE => passes_own
  case zt =>
    refine fa2 ?_
    intro b tb h tk hPP F1 N1
    dsimp only at F1 N1 hPP ⊢
    have hP1 := hPP.1
    have hP2 := hPP.2.1
    have hP3 := hPP.2.2
    clear hPP
    clear lF lN
    ktr_unf
    · (rename Fr _ _ _ _ => lF); (rename News _ _ _ _ => lN); (rename b < (x.length : Int) => hlt); (rename (PySem.Builtin.Str.occurrences _ _ _ _ _).isEmpty = true => ho)
      have hn := not_sign hP1 hlt ho
      refine' WEnd.intro (b + 1, _) lF lN (fr_agree [PySem.Str.ofString "begin", PySem.Str.ofString "text"] ?z1 ?z2) ?z3 ?zp ?zm
      case z1 => tb_start
      case z2 => tb_rel
      case z3 => exact fun _ h => h
      case zp => exact ⟨by dsimp only; omega, by dsimp only; omega, fun i hi n hx => by
        dsimp only at hi
        by_cases hib : (i : Int) < b
        · exact hP3 i hib n hx
        · have : i = b.toNat := by omega
          subst this
          exact hn n hx⟩
      case zm => exact dec_lt (by assumption) (by assumption)
    · (rename Fr _ _ _ _ => lF); (rename News _ _ _ _ => lN); (rename b < (x.length : Int) => hlt); (rename (PySem.Builtin.Str.occurrences _ _ _ _ _).isEmpty = false => ho)
      refine WDone.intro lF lN ?_
      dsimp only
      exact bOf_at hP1 hlt hP3 (is_sign hP1 hlt ho)
    · (rename Fr _ _ _ _ => lF); (rename News _ _ _ _ => lN); (rename ¬ b < (x.length : Int) => hlt)
      refine WDone.intro lF lN ?_
      dsimp only
      exact bOf_all (by omega) hP3
  case zd =>
    refine fa2 ?_
    intro b tb h tk hb F1 N1
    dsimp only at F1 N1 hb ⊢
    clear lF lN
    have hb1 : b ≤ x.length := by rw [hb, ← hxl]; exact Int.ofNat_le.mpr (List.takeWhile_prefix _).length_le
    ktr_unf
    (rename Fr _ _ _ _ => lF); (rename News _ _ _ _ => lN)
    refine' while_ownD (σ := Int × PySem.Tok) (fun c y => List.lookup y [(PySem.Str.ofString "end", .int c.1 c.2), (PySem.Str.ofString "begin", .int b tb), (PySem.Str.ofString "text", .str x tx)]) (fun _ => rest)
      (fun c => b ≤ c.1 ∧ c.1 ≤ x.length ∧ ∀ i : Nat, b ≤ (i : Int) → (i : Int) < c.1 → ∀ n, (sg x)[i]? = some n → isS n = true) (fun c => x.length - c.1.toNat) (fun c => c.1 = b + (mOf (sg x)).length) (b, _) lF lN (fr_agree [PySem.Str.ofString "end", PySem.Str.ofString "begin", PySem.Str.ofString "text"] ?z1 ?z2) ?z3 ?zp ?zt ?zd ?zE
    case z1 => tb_start
    case z2 => tb_rel
    case z3 => exact fun _ h => h
    case zp => exact ⟨Int.le_refl _, by omega, fun i h1 h2 => by dsimp only at h2; omega⟩
    case zE => passes_own
    case zt =>
      refine fa2 ?_
      intro e te h tk hPP F1 N1
      dsimp only at F1 N1 hPP ⊢
      have hP1 := hPP.1
      have hP2 := hPP.2.1
      have hP3 := hPP.2.2
      clear hPP
      clear lF lN
      have h0 : 0 ≤ e := by omega
      ktr_unf
      · (rename Fr _ _ _ _ => lF); (rename News _ _ _ _ => lN); (rename e < (x.length : Int) => hlt); (rename (PySem.Builtin.Str.occurrences _ _ _ _ _).isEmpty = true => ho)
        refine WDone.intro lF lN ?_
        dsimp only
        exact mOf_at hb hP1 hlt hP3 (not_sign h0 hlt ho)
      · (rename Fr _ _ _ _ => lF); (rename News _ _ _ _ => lN); (rename e < (x.length : Int) => hlt); (rename (PySem.Builtin.Str.occurrences _ _ _ _ _).isEmpty = false => ho)
        have hn := is_sign h0 hlt ho
        refine' WEnd.intro (e + 1, _) lF lN (fr_agree [PySem.Str.ofString "end", PySem.Str.ofString "begin", PySem.Str.ofString "text"] ?z1 ?z2) ?z3 ?zp ?zm
        case z1 => tb_start
        case z2 => tb_rel
        case z3 => exact fun _ h => h
        case zp => exact ⟨by dsimp only; omega, by dsimp only; omega, fun i h1 hi n hx => by
          dsimp only at hi
          by_cases hib : (i : Int) < e
          · exact hP3 i h1 hib n hx
          · have : i = e.toNat := by omega
            subst this
            exact hn n hx⟩
        case zm => exact dec_lt (by assumption) (by assumption)
      · (rename Fr _ _ _ _ => lF); (rename News _ _ _ _ => lN); (rename ¬ e < (x.length : Int) => hlt)
        refine WDone.intro lF lN ?_
        dsimp only
        exact mOf_all hb hP1 (by omega) hP3
    case zd =>
      refine fa2 ?_
      intro e te h tk he F1 N1
      dsimp only at F1 N1 he ⊢
      clear lF lN
      have he1 : e ≤ x.length := by
        have h1 : (mOf (sg x)).length ≤ (rOf (sg x)).length := (List.takeWhile_prefix _).length_le
        rw [rOf_drop, List.length_drop, hxl] at h1
        omega
      have h0 : 0 ≤ b := by omega
      have h0e : b ≤ e := by omega
      have h00 : 0 ≤ e := by omega
      have hcs : sg (PySem.Txt.slice x (some e) none) = cOf (sg x) := by rw [sg_from h00 he1, he, hb]; exact cOf_drop _
      have hms : sg (PySem.Txt.slice x (some b) (some e)) = mOf (sg x) := by rw [beq_iff_eq.mp (slice_closesL h0 h0e he1)]; show sg (Mine.tx _) = _; rw [sg_tx, he, hb]; exact mOf_take _
      have hbs : sg (PySem.Txt.slice x none (some b)) = bOf (sg x) := by rw [sg_to h0 hb1, hb]; exact bOf_take _
      have hlen1 : (PySem.Txt.slice x none (some b)).length ≤ 1100 := by rw [← sg_len, sg_to h0 hb1, List.length_take]; exact Nat.le_trans (Nat.min_le_right _ _) (Nat.le_trans (Nat.le_of_eq (sg_len x)) hx)
      have hlen2 : (PySem.Txt.slice x (some b) (some e)).length ≤ 1100 := by rw [← sg_len, beq_iff_eq.mp (slice_closesL h0 h0e he1)]; show (sg (Mine.tx _)).length ≤ _; rw [sg_tx, List.length_take]; exact Nat.le_trans (Nat.min_le_right _ _) (by rw [List.length_drop]; exact Nat.le_trans (Nat.sub_le _ _) (Nat.le_trans (Nat.le_of_eq (sg_len x)) hx))
      have hlen3 : (PySem.Txt.slice x (some e) none).length ≤ 1100 := by rw [← sg_len, sg_from h00 he1, List.length_drop]; exact Nat.le_trans (Nat.sub_le _ _) (Nat.le_trans (Nat.le_of_eq (sg_len x)) hx)
      ktr_unf
      (rename Fr _ _ _ _ => lF); (rename News _ _ _ _ => lN)
      refine' text_own (σ := Unit) (fun _ y => List.lookup y [(PySem.Str.ofString "end", .int e te), (PySem.Str.ofString "begin", .int b tb), (PySem.Str.ofString "text", .str x tx)]) (fun _ => rest)
        (fun i _ => ∀ j, j < i → ∀ n, (cOf (sg x))[j]? = some n → isS n = false) (rest.map (·.1)) () rfl lF lN ?z3 ?z4 (fun _ => rfl) ?zp ?zt ?zd
      case z3 =>
        refine fr_agreeX [PySem.Str.ofString "end", PySem.Str.ofString "begin", PySem.Str.ofString "text"] ?_ ?_
        · tb_start
        · tb_rel
      case z4 => exact fun _ h => h
      case zp => exact fun j hj => absurd hj (Nat.not_lt_zero _)
      case zt =>
        rintro i n _ h tk t own hn hP hoff F1 N1
        dsimp only at F1 N1 hP ⊢
        rw [hcs] at hn
        clear lF lN
        ktr_unf
        · (rename Fr _ _ _ _ => lF); (rename News _ _ _ _ => lN); (rename (PySem.Builtin.Str.occurrences _ _ _ _ _).isEmpty = true => ho)
          rw [in_signs] at ho
          have hn2 : isS n = false := by simpa using ho
          refine REnd.intro () lF lN (fr_agreeX [PySem.Str.ofString "end", PySem.Str.ofString "begin", PySem.Str.ofString "text"] (by tb_start) (by tb_rel)) (fun _ h => h) ?_
          intro j hj n' hn'
          by_cases hji : j < i
          · exact hP j hji n' hn'
          · have : j = i := by omega
            subst this
            rw [hn] at hn'
            exact (Option.some.inj hn') ▸ hn2
        · (rename (PySem.Builtin.Str.occurrences _ _ _ _ _).isEmpty = false => ho)
          rw [in_signs] at ho
          have hn2 : isS n = true := by simpa using ho
          (rename RaisedSN _ _ _ _ _ _ _ => zR); (rename Heap.UpToSlots _ _ => zU); (rename Fr h₀ _ _ _ => zF)
          have hbad : rdBad (sg x) = true := by
            rw [rdBad, Bool.or_eq_true]; left
            exact List.any_eq_true.mpr ⟨n, List.mem_of_getElem? hn, hn2⟩
          exact hexc _ _ _ _ hbad zF (RaisedSN_sub zR fun p hp => List.mem_append_left _ hp) zU
      case zd =>
        rintro u _ h tk hP F1 N1
        dsimp only at F1 N1 hP ⊢
        rw [← sg_len, hcs] at hP
        clear lF lN
        have hany : (cOf (sg x)).any isS = false := by
          rw [List.any_eq_false]
          intro n hn
          obtain ⟨j, hj, rfl⟩ := List.getElem_of_mem hn
          rw [hP j hj _ (List.getElem?_eq_getElem hj)]; decide
        ktr_unf
        · (rename Fr h₀ _ _ _ => zF); (rename News h₀ _ _ _ => zN); (rename ∀ q ∈ rest, q.1 < _ => l19); (rename PicEs _ _ _ _ _ _ _ _ => he9); (rename picBad _ _ = false => hb9)
          rw [hms] at hb9
          refine hret _ _ _ _ ⟨_, _, _, _, _, _, _, _, _, _, rfl, he9, rfl, l19, by assumption, hbs, hcs, by rw [rdBad, hany, hb9]; rfl, ?_, ?_, ?_, ?_, ?_⟩ zF zN
          · rw [← hms]; assumption
          · rw [← hms]; assumption
          · rw [← hms]; assumption
          · rw [← hms]; assumption
          · rw [← hbs, ← hcs]; assumption
        · (rename RaisedSN _ _ _ _ _ _ _ => zR); (rename Heap.UpToSlots _ _ => zU); (rename Fr h₀ _ _ _ => zF); (rename picBad _ _ = true => hb9)
          rw [hms] at hb9
          exact hexc _ _ _ _ (by rw [rdBad, hb9, Bool.or_true]) zF zR zU
end Mine

end
section
namespace Mine
section
variable {prog : Program} {w : World} {A₀ : Around} {E : Value → Shared → Prop} {s' : Shared} {base g g₀ G : Heap} {outer : List Env} {L a e C : PySem.Addr} {m : PySem.Str → Option Value} {name : PySem.Str} {scope : Scope} {cd : Value}
  {b₀ : Stmt} {suite : List Stmt} {pos np : Pos} {rest : List ExceptHandler} {Q : Flow → Shared → Prop} {news : Obs} {KF : Frag}
  {p : Program} {loose : List PySem.Str} {mean : ExcName → Option Value} {mg mb : PySem.Str → Option Value} {x : PySem.Str}
theorem caught_SNO0 (R : RaisedSN base G (envOf name scope L a cd :: outer) e (.ref C) news s'.heap) (F : Fr g L G m) (K : Below A₀ base outer g) (hsm : G.UpToSlots s'.heap) (XB : KF.In base) (TB : Top p loose mean mg mb base)
    (D : KtsDicts (outer.filterMap (·.frame)) g) (T0 : KtsTurn (outer.filterMap (·.frame)) g₀ g)
    (ex : nsIn KF mainGlobals x = some (some (.ref C))) (q : ktsIn KF C "BaseException" = true)
    (k : ∀ h' g', KtsTurn (outer.filterMap (·.frame)) g₀ g' → Fr g' L h' m → News g' L h' news → Below A₀ base outer g' → KF.In g' → Top p loose mean mg mb g' → KtsDicts (outer.filterMap (·.frame)) g' →
      wpAny (model prog w) ((A₀.deeper (envOf name scope L a cd)).mark (some (.ref e))) (execs (b₀ :: suite) (envOf name scope L a cd)) Q E { s' with heap := h' })
    (hk : scope.kind = .function := by rfl) (hx : (envOf name scope L a cd).kindOf x = some .globalImplicit := by rfl) (hd : (x == PySem.Str.ofString "__debug__") = false := by decide)
    (hE : PassesOwnAt (model prog w) ((A₀.deeper (envOf name scope L a cd)).mark (some (.ref e))) (A₀.deeper (envOf name scope L a cd)) (envOf name scope L a cd) E := by passes_own) :
    wpAny (model prog w) (A₀.deeper (envOf name scope L a cd)) (noteFrame (.ref e) (envOf name scope L a cd))
      (fun _ s₂ => wpAny (model prog w) (A₀.deeper (envOf name scope L a cd)) (setFlight (.ref e) none) (fun _ s₃ =>
        wpAny (model prog w) (A₀.deeper (envOf name scope L a cd)) (handleBy (.ref e) (envOf name scope L a cd) (.ExceptHandler (some (.Name x np)) none (b₀ :: suite) pos :: rest)) Q E s₃) E s₂) E s' := by
  obtain ⟨B, a0, hB, hBG, hl, hfl⟩ := R
  have hL : B.get? L = none := by
    obtain ⟨_, ⟨L', _, hf, hn', _⟩, _⟩ := hfl.2.2.1
    obtain rfl : L = L' := Option.some.inj hf
    exact hn'
  refine wpAny_looks_onW (Around.frames_deeper K.stack) rfl hfl fun h₄ hheld₄ hsm₄ => ?_
  refine wpAny_landsW hheld₄ fun h₅ hheld hsm₅' => ?_
  have hsm₅ := hsm₄.trans hsm₅'
  obtain ⟨g₅, T₅, F₅, K₅⟩ := kts_ground K F hBG hheld.1 (hsm.trans hsm₅)
  have X₅ : KF.In g₅ := XB.keeps K₅.stays
  have P₅ : TopRead p loose mg mb g₅ := topRead_of (TB.keeps K₅.stays)
  obtain ⟨ob, hob, hobc⟩ := hheld.there
  obtain ⟨nm, q', N, bs, bm, hdct, sn, sub, ab, col, dd, k0, k1, k2, k3, k5, newId, hC, hbase, hbT⟩ := kts_cls X₅ q
  have hC₅ := F₅.keep _ _ hC
  refine wpAny_handleBy_cons (codeAny_handlers_test (name_K F₅ X₅ P₅ ex ?_ hk hx hd)) (by intro q; cases q)
  refine wpAny_excMatches_sub_self hC₅ hob hobc hbase (codeAny_handlers_suite ?_)
  refine lands_againW hheld fun h₆ hfl₆ hsm₆ => ?_
  obtain ⟨g₆, T₆, F₆, K₆⟩ := kts_ground K F hBG hfl₆.1 ((hsm.trans hsm₅).trans hsm₆)
  have Nl : News g₆ L h₆ news := fun q hq => ⟨hfl₆.1 _ _ (hl q hq).1, (fun z => by have := (hl q hq).1; rw [z, hL] at this; cases this), T₆.none_ _ (kts_none F.keep (hl q hq).2.1)⟩
  have X₆ : KF.In g₆ := XB.keeps K₆.stays
  have P₆ : Top p loose mean mg mb g₆ := TB.keeps K₆.stays
  have D₆ : KtsDicts (outer.filterMap (·.frame)) g₆ := D.turn T₆
  exact wpAny_passesOwnAt hE (k h₆ g₆ (T0.trans T₆) F₆ Nl K₆ X₆ P₆ D₆)
end
section
variable {w : World} {mean : ExcName → Option Value} {mg mb : PySem.Str → Option Value} {dp un : Nat} {gd : Option (List Code)} {cn : PySem.Str} {cs : Scope} {ad : PySem.Addr} {ccd : Value} {cl : List (PySem.Str × PySem.Addr)} {outer : List Env} {A₀ : Around} {base h₀ : Heap} {L : PySem.Addr} {m : PySem.Str → Option Value} {s : Shared} {Q E : Value → Shared → Prop}
theorem rd_use {x : PySem.Str} {tx : PySem.Tok} {news : Obs}
    (B : Below A₀ base outer h₀) (F : Fr h₀ L s.heap m) (X : (kh w.params).In h₀) (N : News h₀ L s.heap news) (T : TopV mean mg mb h₀) (hk : cs.kind = .function)
    (hd : dp + 30 < recursionLimit) (hu : un + 8 * 30 < cLine) (hx : x.length ≤ 1100)
    (ret : ∀ (p dx : PySem.Addr) es b z lw gr lr mr fa (h' : Heap) (tk' : Nat), PicEs b z lw gr lr mr fa es → (∀ q ∈ news, q.1 < dx) → dx < p →
        sg b = bOf (sg x) → sg z = cOf (sg x) → rdBad (sg x) = false → lw = ((((whOf (mOf (sg x))).filter (· != 44)).count 48 : Nat) : Int) → gr = tailLen (whOf (mOf (sg x))) → lr = (((rtOf (mOf (sg x))).count 48 : Nat) : Int) → mr = (rtOf (mOf (sg x))).length → fa = facOf (bOf (sg x) ++ cOf (sg x)) →
        Fr h₀ L h' m → News h₀ L h' ((p, instObj 63 dx) :: (dx, dictOf es 7) :: news) → Q (.ref p) { s with heap := h', toks := tk' })
    (exc : ∀ e h' g' tk', rdBad (sg x) = true → Fr h₀ L g' m → RaisedSN base g' (envX cn cs L ad ccd cl :: outer) e (.ref 44) news h' → Heap.UpToSlots g' h' → E (.ref e) { s with heap := h', toks := tk' }) :
    wpAny (model PySem.Challenge.rw_xm0635_01.row.prog w) (ktrTop dp un gd cn cs L ad ccd cl outer) (call (.ref 81) [.str x tx]) Q E s :=
  rd_con w mean mg mb x tx news hx dp un gd cn cs ad ccd cl outer A₀ base h₀ L m s Q E B F X N T hk hd hu
    (by
      rintro v news' h' tk' ⟨p, dx, es, b, z, lw, gr, lr, mr, fa, rfl, he, rfl, h1, h2, h3, h4, h5, h6, h7, h8, h9, h10⟩ F' N'
      exact ret p dx es b z lw gr lr mr fa h' tk' he h1 h2 h3 h4 h5 h6 h7 h8 h9 h10 F' N')
    exc
end
end Mine
local macro_rules | `(tactic| walk_at "noteFrame ref") => `(tactic| (k_here; k_dflt (refine' caught_SNO0 ?R ?F ?K ?U ?XB ?TB ?D ?T0 ?ex ?q ?_; (case R => assumption); (case F => assumption); (case K => assumption); (case U => assumption); (case XB => assumption); (case TB => assumption); (case D => assumption); (case T0 => first | assumption | exact KtsTurn.refl); (case q => kts_isx); (case ex => k_is); k_whole); intro h' g' T' F' N' K' X' P' D'; (try k_lift K'); (try k_sweep)))
namespace Mine
theorem refused_con (w : World) (mean : ExcName → Option Value) (mg mb : PySem.Str → Option Value) (x : PySem.Str) (tx : PySem.Tok) (news : Obs) (hx : x.length ≤ 1100)
    (dp un : Nat) (gd : Option (List Code)) (cn : PySem.Str) (cs : Scope) (a : PySem.Addr) (ccd : Value) (A₀ : Around) (base h₀ : Heap) (L : PySem.Addr) (m : PySem.Str → Option Value) (s : Shared) (Q E : Value → Shared → Prop)
    (B : Below A₀ base [] h₀) (F : Fr h₀ L s.heap m) (X : (kh w.params).In h₀) (N : News h₀ L s.heap news) (T : TopV mean mg mb h₀) (XB : (kh w.params).In base) (TB : TopV mean mg mb base) (hk : cs.kind = .function)
    (hdp : dp + 40 < recursionLimit) (hu : un + 8 * 40 < cLine)
    (hret : ∀ h' tk', Fr h₀ L h' m → News h₀ L h' news → Q (.bool (rdBad (sg x))) { s with heap := h', toks := tk' }) :
      wpAny (model PySem.Challenge.rw_xm0635_01.row.prog w) (ktrTop dp un gd cn cs L a ccd [] []) (call (.ref 158) [.str x tx]) Q E s := by
  have kf : kh w.params = kh w.params ∧ PySem.Challenge.rw_xm0635_01 = PySem.Challenge.rw_xm0635_01 := by k_fill; exact ⟨rfl, rfl⟩
  clear kf
  w_top off
  k_with_none
  k_with "subscriptTail Name Constant ref int" => (k_here; (with_reducible show wpAny _ _ (subscriptTail _ _ (Value.ref _) (Value.int _ _)) _ _ _); k_dflt (refine' item_at (IsL.isList (News.get (by k_asm) (by k_mem))) (by decide) (by decide) (by rfl) ?_ (by with_unfolding_all rfl); k_whole))
  k_with "binaryOp FloorDiv int int" => (refine PyProof.Rows.floordiv_int (by omega) ?_)
  k_with "binaryOp Mod int int" => (refine PyProof.Rows.mod_int (by omega) ?_)
  k_with "unf" => repeat' (first | ((fail_if_success (first | (with_reducible show wpAny _ _ (exec (Stmt.While _ _ _ _) _) _ _ _) | (with_reducible show WEnd _ _ _ _ _ _ _ _ _) | (with_reducible show REnd _ _ _ _ _ _ _ _ _) | (with_reducible show Mine.WDone _ _ _ _ _ _ _ _) | (with_reducible show Mine.CPost _ _ _ _ _ _ _ _) | (with_reducible show wpAny _ _ (pyIter _) (fun it s₂ => LoopAtV _ _ _ _ _ _ _ _ _ it s₂) _ _))); first | (k_unfold; (try dsimp only)) | (k_end; wrow_close) | walk1 | (dsimp only; walk1) | (leave1; walk_say "STEP leave1"; try dsimp only)) | fail "no step")
  k_with "WPost" => dsimp only [WPost]
  k_with "RPost" => dsimp only [RPost]
  k_with "exec For Name Call cons nil" => (k_here; (rename Fr _ _ _ _ => lF'); (with_unfolding_all refine' For_invVF lF' (by exact rfl) (by exact rfl) ?_; k_whole))
  k_with "exec For Name Subscript cons nil" => (k_here; (rename Fr _ _ _ _ => lF'); (with_unfolding_all refine' For_invVF lF' (by exact rfl) (by exact rfl) ?_; k_whole))
  k_with "tb1" => (repeat' (first | exact trivial | refine FrAg.cons (by rfl) ?_))
  k_with "tb2" => first | (intro y hy; simp only [List.forall_mem_cons] at hy; simp [lk_cons, hy]; done) | (intro y hx hy; simp only [List.forall_mem_cons] at hy; simp [lk_cons, hx, hy]; done)
  k_with "pick" => first | exact Pick.head (by k_all) | exact Pick.tail (by k_ne) (by kwd_rel)
  k_with "units" => (have hcL9 := cLine_is; (try simp only [units_under_make, units_in1, units_deeper, Around.mark_units, units_caller] at *); (try dsimp only [ktrTop] at *); omega)
  k_with "om" => (with_reducible (first | (show (_ : Int) ≤ _; first | exact lo_of (by first | assumption | exact And.left (by assumption)) (by decide) | exact hi_of1 (by first | assumption | exact And.right (by assumption)) (by decide) | exact hi_of2 (by first | assumption | exact And.right (by assumption)) (by decide) | exact lo_pos (by assumption) (by decide) | exact And.left (by assumption)) | (show (_ : Int) < _; first | exact And.right (by assumption) | exact hi_of3 (by first | assumption | exact And.right (by assumption)) (by decide) | exact hi_of4 (by first | assumption | exact And.right (by assumption)) (by decide) | exact lo_lt (by first | assumption | exact And.left (by assumption)) (by decide)) | (show (_ : Nat) < _; first | exact room2 (by assumption) (by decide) | exact room1 (by assumption) (by decide) | exact room0 (by assumption) | exact nhi_of3 (by assumption) (by decide) | exact nhi_of4 (by assumption) (by decide)) | (show (_ : Nat) ≤ _; first | exact nhi_of2 (by assumption) (by decide) | exact nhi_of1 (by assumption) (by decide)) | (show @Ne Nat _ _; first | exact Ne.symm (by assumption) | exact Nat.ne_of_gt (by first | assumption | exact And.left (by assumption) | exact And.left (And.right (by assumption)) | exact And.left (And.right (And.right (by assumption))) | exact And.left (And.right (And.right (And.right (by assumption))))) | exact Nat.ne_of_lt (by first | assumption | exact And.left (by assumption) | exact And.left (And.right (by assumption)) | exact And.left (And.right (And.right (by assumption))) | exact And.left (And.right (And.right (And.right (by assumption)))))) | (show _ ∧ _; exact And.intro (by omega) (by omega))))
  k_with "call ref" => (k_here; (with_reducible show wpAny _ _ (call (Value.ref 81) _) _ _ _); k_dflt (refine' rd_use (by k_asm) (by k_asm) (by k_asm) (by k_asm) (by k_asm) (by first | exact rfl | assumption) (by ktr_room) (by ktr_units) (by omega) ?_ ?_; (all_goals (first | (intro e9 h9 g9 tk9 hb9 G9 (R9 : RaisedSN _ _ _ _ _ _ _) U9; (try k_unfold); (try dsimp only)) | (intro p9 d9 es9 b9 z9 lw9 gr9 lr9 mr9 fa9 h9 tk9 he9 l19 l29 hsb9 hsz9 hb9 q1 q2 q3 q4 q5 F9 N9; (try k_sweep))))))
  refine wpAny_call ?_
  k_dflt (refine' code_defS0 ?k1 ?k2 ?k3 ?k4 ?k5 ?kA ?k6 ?k7 ?k8 ?k9 ?kB ?_ ?cK ?c2 ?c3 ?c4 ?c5; (case kA => exact rfl); (case k2 => k_asm); (case k1 => k_asm); (case k3 => k_asm); (case k4 => k_asm); (case k5 => k_asm); (case k6 => k_is); (case k7 => k_is); (case k8 => ktr_room); (case k9 => exact BindsTo.of_eq rfl); (case kB => exact locs rfl); (case cK => assumption); (case c2 => exact rfl); (case c3 => exact rfl); (case c4 => exact rfl); (case c5 => decide); k_whole; intro g' L' h' FG' F' N' B' X' T' D'; (try dsimp only); (try k_lift B'); (try k_fold))
  (rename Fr _ _ _ _ => lF); replace lF : Fr _ _ _ (fun y => List.lookup y [(PySem.Str.ofString "text", .str x tx)]) := lF
  ktr_unf
  · (rename Fr h₀ _ _ _ => zF); (rename News h₀ _ _ _ => zN); (rename rdBad _ = false => hb9)
    rw [hb9] at hret
    exact hret _ _ zF (News_tail (News_tail zN))
  · (rename Fr h₀ _ _ _ => zF); (rename News h₀ _ _ _ => zN); (rename rdBad _ = true => hb9)
    rw [hb9] at hret
    exact hret _ _ zF zN
end Mine

end
namespace Mine
theorem take_succ_getD (l : List Nat) (i : Nat) (h : i < l.length) : l.take (i + 1) = l.take i ++ [l.getD i 0] := by
  rw [List.take_succ, List.getD_eq_getElem?_getD, List.getElem?_eq_getElem h]; rfl
theorem pcs_plain {k : Nat} {l : List Nat} (hk : ¬ (0 < k ∧ k < l.length)) : ∀ i, i ≤ l.length → pcs k l i = l.take i
  | 0, _ => rfl
  | i + 1, h => by
    rw [pcs, pcs_plain hk i (by omega), take_succ_getD l i (by omega), if_neg, List.append_nil]
    rintro ⟨h1, h2, h3⟩
    have h4 : l.length - i < k := by omega
    rw [Nat.mod_eq_of_lt h4] at h3
    omega
theorem pcs_take {k : Nat} {l : List Nat} (h0 : 0 < k) (h : k < l.length) : ∀ i, i ≤ l.length - k → pcs k (l.take (l.length - k)) i = pcs k l i
  | 0, _ => rfl
  | i + 1, hi => by
    have e1 : (l.take (l.length - k)).length = l.length - k := by rw [List.length_take]; omega
    have e2 : (l.length - k - i) % k = (l.length - i) % k := by
      rw [show l.length - i = (l.length - k - i) + k by rw [Nat.sub_right_comm, Nat.sub_add_cancel (Nat.le_sub_of_add_le (by rw [Nat.add_comm]; exact Nat.add_le_of_le_sub (Nat.le_of_lt h) (Nat.le_of_succ_le hi)))], Nat.add_mod_right]
    have e3 : (l.take (l.length - k)).getD i 0 = l.getD i 0 := by
      rw [List.getD_eq_getElem?_getD, List.getD_eq_getElem?_getD, List.getElem?_take, if_pos (by omega)]
    rw [pcs, pcs, pcs_take h0 h i (by omega), e1, e2, e3]
theorem pcs_last {k : Nat} {l : List Nat} (h0 : 0 < k) (h : k < l.length) : ∀ j, j < k → pcs k l (l.length - k + (j + 1)) = pcs k l (l.length - k) ++ 44 :: (l.drop (l.length - k)).take (j + 1)
  | 0, _ => by
    rw [Nat.zero_add, pcs, if_pos ⟨by omega, h0, by rw [show l.length - (l.length - k) = k by omega, Nat.mod_self]⟩]
    have : (l.drop (l.length - k)).take 1 = [l.getD (l.length - k) 0] := by
      rw [take_succ_getD _ 0 (by rw [List.length_drop]; omega), List.getD_eq_getElem?_getD, List.getElem?_drop, List.getD_eq_getElem?_getD]; rfl
    rw [this, List.append_assoc]; rfl
  | j + 1, hj => by
    rw [show l.length - k + (j + 1 + 1) = (l.length - k + (j + 1)) + 1 by omega, pcs, pcs_last h0 h j (by omega), if_neg, List.append_nil]
    · rw [take_succ_getD (l.drop (l.length - k)) (j + 1) (by rw [List.length_drop]; omega), List.getD_eq_getElem?_getD, List.getD_eq_getElem?_getD, List.getElem?_drop]
      simp
    · rintro ⟨h1, h2, h3⟩
      rw [show l.length - (l.length - k + (j + 1)) = k - (j + 1) by rw [Nat.sub_add_eq, Nat.sub_sub_self (Nat.le_of_lt h)], Nat.mod_eq_of_lt (Nat.sub_lt h0 (Nat.succ_pos j))] at h3
      omega
theorem pcs_grp (k : Nat) (l : List Nat) : pcs k l l.length = grp k l := by
  by_cases h : 0 < k ∧ k < l.length
  · rw [grp_step h.1 h.2, ← pcs_grp k (l.take (l.length - k))]
    have e1 : (l.take (l.length - k)).length = l.length - k := by rw [List.length_take]; omega
    have e2 := pcs_last h.1 h.2 (k - 1) (by omega)
    rw [show l.length - k + (k - 1 + 1) = l.length by omega] at e2
    rw [e2, e1, pcs_take h.1 h.2 _ (Nat.le_refl _), List.take_of_length_le (by rw [List.length_drop]; omega)]
  · rw [grp_stop h, pcs_plain h _ (Nat.le_refl _), List.take_length]
termination_by l.length
decreasing_by rw [List.length_take]; omega
theorem grp_arith {x n k : Nat} (h0 : 0 < k) (h : k < n) (hx : x ≤ 2 * (n - k)) : x + (k + 1) ≤ 2 * n := by omega
theorem grp_len (k : Nat) (l : List Nat) : (grp k l).length ≤ 2 * l.length := by
  by_cases h : 0 < k ∧ k < l.length
  · have ih := grp_len k (l.take (l.length - k))
    rw [grp_step h.1 h.2, List.length_append, List.length_cons, List.length_drop]
    rw [List.length_take, Nat.min_eq_left (Nat.sub_le _ _)] at ih
    rw [Nat.sub_sub_self (Nat.le_of_lt h.2)]
    exact grp_arith h.1 h.2 ih
  · rw [grp_stop h]; omega
termination_by l.length
decreasing_by rw [List.length_take]; omega
end Mine
namespace Mine
/-- trailing noughts struck while there are more than so many -/
def stp (least : Nat) (l : List Nat) : List Nat :=
  if least < l.length ∧ l.getLast? = some 48 then stp least l.dropLast else l
termination_by l.length
decreasing_by rw [List.length_dropLast]; omega
theorem stp_step {k : Nat} {l : List Nat} (h0 : k < l.length) (h : l.getLast? = some 48) : stp k l = stp k l.dropLast := by
  rw [stp, if_pos ⟨h0, h⟩]
theorem stp_stop {k : Nat} {l : List Nat} (h : ¬ (k < l.length ∧ l.getLast? = some 48)) : stp k l = l := by
  rw [stp, if_neg h]
theorem stp_len (k : Nat) (l : List Nat) : (stp k l).length ≤ l.length := by
  by_cases h : k < l.length ∧ l.getLast? = some 48
  · have ih := stp_len k l.dropLast
    rw [stp_step h.1 h.2]
    rw [List.length_dropLast] at ih
    omega
  · rw [stp_stop h]; omega
termination_by l.length
decreasing_by rw [List.length_dropLast]; omega
/-- the whole part as it is told -/
def wz (must : Nat) (w r : List Nat) : List Nat :=
  let w' := if w = [48] ∧ must = 0 ∧ r ≠ [] then [] else w
  List.replicate (must - w'.length) 48 ++ w'
def fin (must size least : Nat) (w r : List Nat) : List Nat :=
  let r' := stp least r
  let t := grp size (wz must w r')
  if r' = [] then t else t ++ 46 :: r'
theorem last_drop (l : List Nat) (h : 0 < l.length) : l.drop (l.length - 1) = l.getLast?.toList := by
  have e : l.length - 1 + 1 = l.length := by omega
  rw [List.getLast?_eq_getElem?, List.drop_eq_getElem_cons (by omega), List.getElem?_eq_getElem (by omega), e, List.drop_length]
  rfl
theorem neg1 (x : PySem.Str) : (-1 + (x.length : Int)).toNat = (sg x).length - 1 := by rw [sg_len, Int.add_comm]; exact toNat_sub (m := 1) (by decide)
theorem sg_last {x : PySem.Str} (h : 0 < x.length) : sg (PySem.Txt.slice x (some (-1)) none) = (sg x).getLast?.toList := by
  rw [beq_iff_eq.mp (slice_closes_from_neg (x := x) (i := -1) (by decide) (by omega) rfl rfl)]
  show sg (tx _) = _
  have hl := sg_len x
  rw [sg_tx, List.take_of_length_le (by rw [List.length_drop]; show (sg x).length - _ ≤ _; omega), ← last_drop _ (by omega)]
  show (sg x).drop _ = _
  congr 1; exact neg1 x
theorem sg_init {x : PySem.Str} (h : 0 < x.length) : sg (PySem.Txt.slice x none (some (-1))) = (sg x).dropLast := by
  rw [beq_iff_eq.mp (slice_closes_to_neg (x := x) (j := -1) (by decide) (by omega) rfl)]
  show sg (tx _) = _
  have hl := sg_len x
  rw [sg_tx, List.dropLast_eq_take]
  show ((sg x).drop 0).take _ = _
  rw [List.drop_zero]
  congr 1; rw [Int.sub_zero]; exact neg1 x
theorem sg_item_last {x : PySem.Str} (h : 0 < x.length) : sg (PySem.Txt.item x (-1)) = (sg x).getLast?.toList := by
  rw [beq_iff_eq.mp (item_closes_neg (x := x) (i := -1) (by decide) (by omega) rfl)]
  have hl := sg_len x
  rw [List.getLast?_eq_getElem?, List.getElem?_eq_getElem (by omega)]
  show [x.cps.getD _ 0] = [_]
  congr 1
  have : (-1 + (x.length : Int)).toNat = (sg x).length - 1 := neg1 x
  rw [this]
  have h2 : (sg x).length - 1 < x.cps.size := by
    have : x.cps.size = x.length := rfl
    omega
  simp only [sg] at h2 ⊢
  rw [Array.getElem_toList, Array.getD, dif_pos h2]
  rfl
theorem toList_one {o : Option Nat} {c : Nat} : o.toList = [c] ↔ o = some c := by cases o <;> simp
theorem beq_sg (x : PySem.Str) (l : List Nat) (y : PySem.Str) (hy : y = tx l) : (x == y) = decide (sg x = l) := by
  subst hy
  rw [Bool.eq_iff_iff, beq_iff_eq, decide_eq_true_eq]
  constructor
  · rintro rfl; rw [sg_tx]
  · intro h; exact sg_inj (by rw [h, sg_tx])
theorem lit_zero : PySem.Str.ofString "0" = tx [48] := by decide +kernel
theorem lit_point : PySem.Str.ofString "." = tx [46] := by decide +kernel
theorem last_beq {x : PySem.Str} (h : 0 < x.length) : (PySem.Txt.slice x (some (-1)) none == PySem.Str.ofString "0") = decide ((sg x).getLast? = some 48) := by
  rw [beq_sg _ _ _ lit_zero, sg_last h, decide_eq_decide, toList_one]
theorem item_beq {x : PySem.Str} (h : 0 < x.length) : (PySem.Txt.item x (-1) == PySem.Str.ofString "0") = decide ((sg x).getLast? = some 48) := by
  rw [beq_sg _ _ _ lit_zero, sg_item_last h, decide_eq_decide, toList_one]
/-- a number's own digits -/
def dg (n : Int) : List Nat := (Nat.toDigits 10 n.toNat).map Char.toNat
theorem sg_num {n : Int} (h : 0 ≤ n) : sg (PySem.Str.ofString (toString n)) = dg n := by
  have : n = ((n.toNat : Nat) : Int) := by omega
  conv => lhs; rw [this]
  exact KIN.signs_num n.toNat
end Mine
namespace Mine
theorem dg_len_le (k : Nat) : ∀ n : Nat, n < 10 ^ (k + 1) → (Nat.toDigits 10 n).length ≤ k + 1 := by
  induction k with
  | zero => intro n h; rw [Nat.toDigits_of_lt_base (by simpa using h)]; exact Nat.le_refl _
  | succ k ih =>
    intro n h
    by_cases hn : n < 10
    · rw [Nat.toDigits_of_lt_base hn]; simp
    · have t : Nat.toDigits 10 (n / 10) ++ Nat.toDigits 10 (n % 10) = Nat.toDigits 10 (10 * (n / 10) + n % 10) := Nat.toDigits_append_toDigits (by decide) (by omega) (Nat.mod_lt _ (by decide))
      rw [Nat.div_add_mod] at t
      have h2 := ih (n / 10) (by rw [Nat.pow_succ] at h; omega)
      rw [← t, List.length_append, Nat.toDigits_of_lt_base (Nat.mod_lt _ (by decide))]
      simp only [List.length_cons, List.length_nil]; omega
theorem dg_len_pos (n : Nat) : 0 < (Nat.toDigits 10 n).length := by
  by_cases hn : n < 10
  · rw [Nat.toDigits_of_lt_base hn]; simp
  · have t : Nat.toDigits 10 (n / 10) ++ Nat.toDigits 10 (n % 10) = Nat.toDigits 10 (10 * (n / 10) + n % 10) := Nat.toDigits_append_toDigits (by decide) (by omega) (Nat.mod_lt _ (by decide))
    rw [Nat.div_add_mod] at t
    rw [← t, List.length_append, Nat.toDigits_of_lt_base (Nat.mod_lt _ (by decide))]
    simp
theorem num_len {n : Int} (h : 0 ≤ n) (h' : n < 10 ^ 15) : (PySem.Str.ofString (toString n)).length ≤ 15 ∧ 0 < (PySem.Str.ofString (toString n)).length := by
  rw [← sg_len, sg_num h]
  unfold dg
  rw [List.length_map]
  exact ⟨dg_len_le 14 _ (by omega), dg_len_pos _⟩
end Mine
namespace Mine
section
variable {prog : Program} {w : World} {A : Around} {E : Value → Shared → Prop} {s : Shared} {Q : Value → Shared → Prop} {t u : PySem.Tok} {a b k : Int}
theorem pow_cases {k : Int} (h0 : 0 ≤ k) (h4 : k ≤ 4) : 1 ≤ (10 : Int) ^ k.toNat ∧ (10 : Int) ^ k.toNat ≤ 10000 := by
  obtain ⟨n, rfl⟩ := Int.eq_ofNat_of_zero_le h0
  show 1 ≤ (10 : Int) ^ n ∧ (10 : Int) ^ n ≤ 10000
  match n, Int.ofNat_le.mp h4 with
  | 0, _ => decide
  | 1, _ => decide
  | 2, _ => decide
  | 3, _ => decide
  | 4, _ => decide
  | _ + 5, h => exact absurd h (Nat.not_le_of_gt (Nat.lt_of_lt_of_le (by decide) (Nat.le_add_left 5 _)))
theorem pow_r (h0 : 0 ≤ k) (h4 : k ≤ 4) (h : ∀ sc : Int, sc = 10 ^ k.toNat → 1 ≤ sc → sc ≤ 10000 → Q (.int sc s.toks) { s with toks := s.toks + 1 }) :
    wpAny (model prog w) A (binaryOp .Pow (.int 10 t) (.int k u)) Q E s := by
  exact pow_int_small h0 (by omega) (by decide) (h _ rfl (pow_cases h0 h4).1 (pow_cases h0 h4).2)
theorem fdiv_r (h0 : 0 ≤ a) (hb : 0 < b) (hb' : b ≤ 100000000) (h : ∀ q : Int, q = a.fdiv b → 0 ≤ q → q ≤ a → Q (.int q s.toks) { s with toks := s.toks + 1 }) :
    wpAny (model prog w) A (binaryOp .FloorDiv (.int a t) (.int b u)) Q E s := by
  refine PyProof.Rows.floordiv_int (by omega) (h _ rfl ?_ ?_)
  · exact Int.fdiv_nonneg h0 (by omega)
  · rw [Int.fdiv_eq_ediv_of_nonneg _ (by omega)]
    exact Int.ediv_le_self _ h0
theorem fmod_r (h0 : 0 ≤ a) (hb : 0 < b) (h : ∀ q : Int, q = a.fmod b → 0 ≤ q → q < b → Q (.int q s.toks) { s with toks := s.toks + 1 }) :
    wpAny (model prog w) A (binaryOp .Mod (.int a t) (.int b u)) Q E s := by
  exact PyProof.Rows.mod_int (by omega) (h _ rfl (Int.fmod_nonneg_of_pos _ hb) (Int.fmod_lt_of_pos _ hb))
theorem mul_r (A' B' : Int) (ha : 0 ≤ a) (hb : 0 ≤ b) (ha' : a ≤ A') (hb' : b ≤ B') (hm : IntMulOk a b) (h : ∀ c : Int, c = a * b → 0 ≤ c → c ≤ A' * B' → Q (.int c s.toks) { s with toks := s.toks + 1 }) :
    wpAny (model prog w) A (binaryOp .Mult (.int a t) (.int b u)) Q E s := by
  refine PyProof.Rows.mul_int (h _ rfl (Int.mul_nonneg ha hb) ?_) hm
  exact Int.mul_le_mul ha' hb' hb (by omega)
end
section
variable {w : World} {mean : ExcName → Option Value} {mg mb : PySem.Str → Option Value} {dp un : Nat} {gd : Option (List Code)} {cn : PySem.Str} {cs : Scope} {ad : PySem.Addr} {ccd : Value} {cl : List (PySem.Str × PySem.Addr)} {outer : List Env} {A₀ : Around} {base h₀ : Heap} {L : PySem.Addr} {m : PySem.Str → Option Value} {s : Shared} {Q E : Value → Shared → Prop}
theorem half_use {a b : Int} {ta tb : PySem.Tok} {news : Obs}
    (B : Below A₀ base outer h₀) (F : Fr h₀ L s.heap m) (X : (kh w.params).In h₀) (N : News h₀ L s.heap news) (T : TopV mean mg mb h₀) (hk : cs.kind = .function)
    (hd : dp + 1 < recursionLimit) (hu : un + 8 * 1 < cLine) (ha : 0 ≤ a) (hb : 0 < b) (hb' : b < 1073741824)
    (ret : ∀ (r : Int) (tr : PySem.Tok) (h' : Heap) (tk' : Nat), r = hev a b → 0 ≤ r → r ≤ a + 1 → Fr h₀ L h' m → News h₀ L h' news → Q (.int r tr) { s with heap := h', toks := tk' }) :
    wpAny (model PySem.Challenge.rw_xm0635_01.row.prog w) (ktrTop dp un gd cn cs L ad ccd cl outer) (call (.ref 88) [.int a ta, .int b tb]) Q E s :=
  half_con w mean mg mb a b ta tb news hb hb' dp un gd cn cs ad ccd cl outer A₀ base h₀ L m s Q E B F X N T hk hd hu
    (by
      rintro v news' h' tk' ⟨r, tr, rfl, h1, rfl⟩ F' N'
      have e1 : 0 ≤ a.fdiv b := Int.fdiv_nonneg ha (by omega)
      have e2 : a.fdiv b ≤ a := by rw [Int.fdiv_eq_ediv_of_nonneg _ (by omega)]; exact Int.ediv_le_self _ ha
      refine ret r tr h' tk' h1 ?_ ?_ F' N' <;> (rw [h1]; simp only [hev]; split <;> omega))
    (fun _ _ _ _ h => h.elim)
theorem near_use {a b : Int} {ta tb : PySem.Tok} {news : Obs}
    (B : Below A₀ base outer h₀) (F : Fr h₀ L s.heap m) (X : (kh w.params).In h₀) (N : News h₀ L s.heap news) (T : TopV mean mg mb h₀) (hk : cs.kind = .function)
    (hd : dp + 1 < recursionLimit) (hu : un + 8 * 1 < cLine) (ha : 0 ≤ a) (ha' : a ≤ 12000 * 1000 * 10000) (hb : 0 < b) (hb' : b < 10000000)
    (ret : ∀ (r : Int) (tr : PySem.Tok) (h' : Heap) (tk' : Nat), r = nrs a b → 0 ≤ r → r ≤ 2 * a + b → r < 1000000000000000 → (PySem.Str.ofString (toString r)).length ≤ 15 → 0 < (PySem.Str.ofString (toString r)).length → Fr h₀ L h' m → News h₀ L h' news → Q (.int r tr) { s with heap := h', toks := tk' }) :
    wpAny (model PySem.Challenge.rw_xm0635_01.row.prog w) (ktrTop dp un gd cn cs L ad ccd cl outer) (call (.ref 137) [.int a ta, .int b tb]) Q E s :=
  near_con w mean mg mb a b ta tb news hb hb' dp un gd cn cs ad ccd cl outer A₀ base h₀ L m s Q E B F X N T hk hd hu
    (by
      rintro v news' h' tk' ⟨r, tr, rfl, h1, rfl⟩ F' N'
      have e1 : 0 ≤ (2 * a + b).fdiv (2 * b) := Int.fdiv_nonneg (by omega) (by omega)
      have e2 : (2 * a + b).fdiv (2 * b) ≤ 2 * a + b := by rw [Int.fdiv_eq_ediv_of_nonneg _ (by omega)]; exact Int.ediv_le_self _ (by omega)
      have z1 : 0 ≤ r := by
        rw [h1]; simp only [nrs]; split
        · rename_i hh
          have : (2 * a + b).fdiv (2 * b) ≠ 0 := fun z => by rw [z] at hh; exact absurd hh.2 (by decide)
          omega
        · omega
      have z2 : r ≤ 2 * a + b := by rw [h1]; simp only [nrs]; split <;> omega
      have z4 : r < 1000000000000000 := by omega
      have z3 := num_len (n := r) z1 (by clear z2 h1 e1 e2; omega)
      exact ret r tr h' tk' h1 z1 z2 z4 z3.1 z3.2 F' N')
    (fun _ _ _ _ h => h.elim)
theorem grouped_use {x : PySem.Str} {size : Int} {tx ts : PySem.Tok} {news : Obs}
    (B : Below A₀ base outer h₀) (F : Fr h₀ L s.heap m) (X : (kh w.params).In h₀) (N : News h₀ L s.heap news) (T : TopV mean mg mb h₀) (hk : cs.kind = .function)
    (hd : dp + 1 < recursionLimit) (hu : un + 8 * 1 < cLine) (hx : x.length ≤ 1000) (hs : 0 ≤ size)
    (ret : ∀ (y : PySem.Str) (ty : PySem.Tok) (h' : Heap) (tk' : Nat), sg y = grp size.toNat (sg x) → y.length ≤ 2 * x.length → Fr h₀ L h' m → News h₀ L h' news → Q (.str y ty) { s with heap := h', toks := tk' }) :
    wpAny (model PySem.Challenge.rw_xm0635_01.row.prog w) (ktrTop dp un gd cn cs L ad ccd cl outer) (call (.ref 95) [.str x tx, .int size ts]) Q E s :=
  grouped_con w mean mg mb x size tx ts news hs hx dp un gd cn cs ad ccd cl outer A₀ base h₀ L m s Q E B F X N T hk hd hu
    (by
      rintro v news' h' tk' ⟨y, ty, rfl, h1, rfl⟩ F' N'
      exact ret y ty h' tk' h1 (by rw [← sg_len, ← sg_len, h1]; exact grp_len _ _) F' N')
    (fun _ _ _ _ h => h.elim)
theorem pieces_use {x : PySem.Str} {size : Int} {tx ts : PySem.Tok} {news : Obs}
    (B : Below A₀ base outer h₀) (F : Fr h₀ L s.heap m) (X : (kh w.params).In h₀) (N : News h₀ L s.heap news) (T : TopV mean mg mb h₀) (hk : cs.kind = .function)
    (hd : dp + 1 < recursionLimit) (hu : un + 8 * 1 < cLine) (hx : x.length ≤ 1000) (hs : 0 ≤ size) (hs' : size < 1073741824)
    (ret : ∀ (y : PySem.Str) (ty : PySem.Tok) (h' : Heap) (tk' : Nat), sg y = grp size.toNat (sg x) → y.length ≤ 2 * x.length → Fr h₀ L h' m → News h₀ L h' news → Q (.str y ty) { s with heap := h', toks := tk' }) :
    wpAny (model PySem.Challenge.rw_xm0635_01.row.prog w) (ktrTop dp un gd cn cs L ad ccd cl outer) (call (.ref 144) [.str x tx, .int size ts]) Q E s :=
  pieces_con w mean mg mb x size tx ts news hs hs' hx dp un gd cn cs ad ccd cl outer A₀ base h₀ L m s Q E B F X N T hk hd hu
    (by
      rintro v news' h' tk' ⟨y, ty, rfl, h1, rfl⟩ F' N'
      rw [pcs_grp] at h1
      exact ret y ty h' tk' h1 (by rw [← sg_len, ← sg_len, h1]; exact grp_len _ _) F' N')
    (fun _ _ _ _ h => h.elim)
end
end Mine
namespace Mine
theorem sg_mul (k : Int) : sg (PySem.Txt.mul (PySem.Str.ofString "0") k) = List.replicate k.toNat 48 := mul_one_list 48 k
theorem mulz_len (k : Int) : (PySem.Txt.mul (PySem.Str.ofString "0") k).length = k.toNat := by rw [← sg_len, sg_mul, List.length_replicate]
theorem pad_room {V : PySem.Str} {lw : Int} (h0 : 0 ≤ lw) (h1 : lw ≤ 10) (h : V.length ≤ 20) :
    (PySem.Txt.mul (PySem.Str.ofString "0") (lw - (V.length : Int))).length + V.length ≤ 30 ∧ (PySem.Txt.mul (PySem.Str.ofString "0") (lw - (V.length : Int)) ++ V).length ≤ 30 ∧ lw - (V.length : Int) ≤ 10 := by
  have e : (PySem.Txt.mul (PySem.Str.ofString "0") (lw - (V.length : Int))).length + V.length ≤ 30 := by
    rw [mulz_len, toNat_sub' h0]
    exact Nat.add_le_add (b := 10) (d := 20) (Nat.le_trans (Nat.sub_le _ _) (toNat_le' (x := 10) h0 h1)) h
  exact ⟨e, by rw [len_append]; exact e, Int.le_trans (Int.sub_le_self _ (Int.natCast_nonneg _)) h1⟩
theorem fig_room {S : PySem.Str} {mr : Int} (h0 : 0 ≤ mr) (h4 : mr ≤ 4) (h1 : S.length ≤ 15) : (PySem.Txt.mul (PySem.Str.ofString "0") (mr + 1 - (S.length : Int))).length + S.length ≤ 20 := by
  rw [mulz_len, toNat_pad h0, Nat.sub_add_eq_max]
  exact Nat.max_le.mpr ⟨Nat.le_trans (Nat.succ_le_succ (toNat_le' (x := 4) h0 h4)) (by decide), Nat.le_trans h1 (by decide)⟩
theorem dot_room {y r z : PySem.Str} (h : y.length ≤ 2 * z.length) (hz : z.length ≤ 30) (hr : r.length ≤ 20) : y.length + (PySem.Str.ofString ".").length ≤ 61 ∧ (y ++ PySem.Str.ofString ".").length + r.length ≤ 81 := by
  have e : (PySem.Str.ofString ".").length = 1 := by decide +kernel
  have h2 : y.length ≤ 60 := Nat.le_trans h (Nat.mul_le_mul_left 2 hz)
  rw [len_append, e]
  exact ⟨Nat.succ_le_succ h2, Nat.add_le_add (Nat.succ_le_succ h2) hr⟩
theorem empty_len : (PySem.Str.ofString "").length = 0 := by rw [empty_tx, len_tx]; rfl
theorem wzA {W r : PySem.Str} {lw : Int} (h1 : (W == PySem.Str.ofString "0") = true) (h2 : lw = 0) (h3 : (r != PySem.Str.ofString "") = true) :
    sg (PySem.Txt.mul (PySem.Str.ofString "0") (lw - ((0 : Nat) : Int)) ++ PySem.Str.ofString "") = wz lw.toNat (sg W) (sg r) := by
  rw [beq_sg _ _ _ lit_zero, decide_eq_true_eq] at h1
  rw [bne, str_beq_empty, Bool.not_eq_true', decide_eq_false_iff_not] at h3
  subst h2
  rw [sg_append, sg_mul, wz, if_pos ⟨h1, rfl, h3⟩, empty_tx, sg_tx]; rfl
theorem wzB {W r : PySem.Str} {lw : Int} (h0 : 0 ≤ lw) (h : ¬ (sg W = [48] ∧ lw.toNat = 0 ∧ sg r ≠ [])) :
    sg (PySem.Txt.mul (PySem.Str.ofString "0") (lw - (W.length : Int)) ++ W) = wz lw.toNat (sg W) (sg r) := by
  rw [sg_append, sg_mul, wz, if_neg h, sg_len]
  have : (lw - (W.length : Int)).toNat = lw.toNat - W.length := toNat_sub' h0
  rw [this]
theorem wzB1 {W r : PySem.Str} {lw : Int} (h0 : 0 ≤ lw) (h : (W == PySem.Str.ofString "0") = false) : sg (PySem.Txt.mul (PySem.Str.ofString "0") (lw - (W.length : Int)) ++ W) = wz lw.toNat (sg W) (sg r) :=
  wzB h0 fun c => by rw [beq_sg _ _ _ lit_zero, decide_eq_false_iff_not] at h; exact h c.1
theorem wzB2 {W r : PySem.Str} {lw : Int} (h0 : 0 ≤ lw) (h : lw ≠ 0) : sg (PySem.Txt.mul (PySem.Str.ofString "0") (lw - (W.length : Int)) ++ W) = wz lw.toNat (sg W) (sg r) :=
  wzB h0 fun c => by have := c.2.1; omega
theorem wzB3 {W r : PySem.Str} {lw : Int} (h0 : 0 ≤ lw) (h : (r != PySem.Str.ofString "") = false) : sg (PySem.Txt.mul (PySem.Str.ofString "0") (lw - (W.length : Int)) ++ W) = wz lw.toNat (sg W) (sg r) :=
  wzB h0 fun c => by rw [bne, str_beq_empty, Bool.not_eq_false', decide_eq_true_eq] at h; exact c.2.2 h
theorem finA {r y Z : PySem.Str} {lw gr lr : Nat} {W R : List Nat} (hr : sg r = stp lr R) (hZ : sg Z = wz lw W (sg r)) (hy : sg y = grp gr (sg Z)) (h : (r == PySem.Str.ofString "") = true) : sg y = fin lw gr lr W R := by
  rw [str_beq_empty, decide_eq_true_eq] at h
  rw [fin, ← hr, if_pos h, hy, hZ]
theorem finB {r y Z : PySem.Str} {lw gr lr : Nat} {W R : List Nat} (hr : sg r = stp lr R) (hZ : sg Z = wz lw W (sg r)) (hy : sg y = grp gr (sg Z)) (h : (r == PySem.Str.ofString "") = false) : sg (y ++ PySem.Str.ofString "." ++ r) = fin lw gr lr W R := by
  rw [str_beq_empty, decide_eq_false_iff_not] at h
  rw [fin, ← hr, if_neg h, sg_append, sg_append, hy, hZ, lit_point, sg_tx, List.append_assoc]; rfl
end Mine
namespace Mine
theorem dig_con (w : World) (mean : ExcName → Option Value) (mg mb : PySem.Str → Option Value) (p dx : PySem.Addr) (es : List DictEntry) (x z : PySem.Str) (lw gr lr mr fa a b : Int) (ta tb : PySem.Tok) (rest : Obs)
    (he : PicEs x z lw gr lr mr fa es) (hlw : 0 ≤ lw) (hlw' : lw ≤ 10) (hgr : 0 ≤ gr) (hgr' : gr ≤ 100) (hlr : 0 ≤ lr) (hlr' : lr ≤ 10) (hmr : 0 ≤ mr) (hmr' : mr ≤ 4) (hfa : 0 ≤ fa) (hfa' : fa ≤ 1000) (ha : 0 ≤ a) (ha' : a ≤ 12000) (hb : 0 < b) (hb' : b ≤ 2000) :
    Con w mean mg mb 102 5 [.ref p, .int a ta, .int b tb] ((p, instObj 63 dx) :: (dx, dictOf es 7) :: rest)
      (fun v news' => ∃ y t, v = .str y t ∧ sg y = fin lw.toNat gr.toNat lr.toNat (dg ((hev (a * fa * 10 ^ mr.toNat) b).fdiv (10 ^ mr.toNat))) ((dg ((hev (a * fa * 10 ^ mr.toNat) b).fmod (10 ^ mr.toNat) + 10 ^ mr.toNat)).drop 1) ∧ news' = (p, instObj 63 dx) :: (dx, dictOf es 7) :: rest) False := by
  obtain ⟨h1, h2, h3, h4, h5, h6, h7, k1, k2, k3, k4, k5, k6, k7, tx, tz, t3, t4, t5, t6, t7⟩ := he
  have kf : kh w.params = kh w.params ∧ PySem.Challenge.rw_xm0635_01 = PySem.Challenge.rw_xm0635_01 := by k_fill; exact ⟨rfl, rfl⟩
  clear kf
  w_top off
  k_with_none
  k_with "subscriptTail Name Constant ref int" => (k_here; (with_reducible show wpAny _ _ (subscriptTail _ _ (Value.ref _) (Value.int _ _)) _ _ _); k_dflt (refine' item_at (IsL.isList (News.get (by k_asm) (by k_mem))) (by decide) (by decide) (by rfl) ?_ (by with_unfolding_all rfl); k_whole))
  k_with "binaryOp FloorDiv int int" => (refine PyProof.Rows.floordiv_int (by omega) ?_)
  k_with "binaryOp Mod int int" => (refine PyProof.Rows.mod_int (by omega) ?_)
  k_with "unf" => repeat' (first | ((fail_if_success (first | (with_reducible show wpAny _ _ (exec (Stmt.While _ _ _ _) _) _ _ _) | (with_reducible show WEnd _ _ _ _ _ _ _ _ _) | (with_reducible show REnd _ _ _ _ _ _ _ _ _) | (with_reducible show Mine.WDone _ _ _ _ _ _ _ _) | (with_reducible show Mine.CPost _ _ _ _ _ _ _ _) | (with_reducible show wpAny _ _ (pyIter _) (fun it s₂ => LoopAtV _ _ _ _ _ _ _ _ _ it s₂) _ _))); first | (k_unfold; (try dsimp only)) | (k_end; wrow_close) | walk1 | (dsimp only; walk1) | (leave1; walk_say "STEP leave1"; try dsimp only)) | fail "no step")
  k_with "WPost" => dsimp only [WPost]
  k_with "RPost" => dsimp only [RPost]
  k_with "exec For Name Call cons nil" => (k_here; (rename Fr _ _ _ _ => lF'); (with_unfolding_all refine' For_invVF lF' (by exact rfl) (by exact rfl) ?_; k_whole))
  k_with "exec For Name Subscript cons nil" => (k_here; (rename Fr _ _ _ _ => lF'); (with_unfolding_all refine' For_invVF lF' (by exact rfl) (by exact rfl) ?_; k_whole))
  k_with "tb1" => (repeat' (first | exact trivial | refine FrAg.cons (by rfl) ?_))
  k_with "tb2" => first | (intro y hy; simp only [List.forall_mem_cons] at hy; simp [lk_cons, hy]; done) | (intro y hx hy; simp only [List.forall_mem_cons] at hy; simp [lk_cons, hx, hy]; done)
  k_with "pick" => first | exact Pick.head (by k_all) | exact Pick.tail (by k_ne) (by kwd_rel)
  k_with "units" => (have hcL9 := cLine_is; (try simp only [units_under_make, units_in1, units_deeper, Around.mark_units, units_caller] at *); (try dsimp only [ktrTop] at *); omega)
  k_with "om" => (with_reducible (first | (show (_ : Int) ≤ _; first | exact lo_of (by first | assumption | exact And.left (by assumption)) (by decide) | exact hi_of1 (by first | assumption | exact And.right (by assumption)) (by decide) | exact hi_of2 (by first | assumption | exact And.right (by assumption)) (by decide) | exact lo_pos (by assumption) (by decide) | exact And.left (by assumption)) | (show (_ : Int) < _; first | exact And.right (by assumption) | exact hi_of3 (by first | assumption | exact And.right (by assumption)) (by decide) | exact hi_of4 (by first | assumption | exact And.right (by assumption)) (by decide) | exact lo_lt (by first | assumption | exact And.left (by assumption)) (by decide)) | (show (_ : Nat) < _; first | exact room2 (by assumption) (by decide) | exact room1 (by assumption) (by decide) | exact room0 (by assumption) | exact nhi_of3 (by assumption) (by decide) | exact nhi_of4 (by assumption) (by decide)) | (show (_ : Nat) ≤ _; first | exact nhi_of2 (by assumption) (by decide) | exact nhi_of1 (by assumption) (by decide)) | (show @Ne Nat _ _; first | exact Ne.symm (by assumption) | exact Nat.ne_of_gt (by first | assumption | exact And.left (by assumption) | exact And.left (And.right (by assumption)) | exact And.left (And.right (And.right (by assumption))) | exact And.left (And.right (And.right (And.right (by assumption))))) | exact Nat.ne_of_lt (by first | assumption | exact And.left (by assumption) | exact And.left (And.right (by assumption)) | exact And.left (And.right (And.right (by assumption))) | exact And.left (And.right (And.right (And.right (by assumption)))))) | (show _ ∧ _; exact And.intro (by omega) (by omega))))
  k_with "call ref" => (k_here; (with_reducible show wpAny _ _ (call (Value.ref 88) _) _ _ _); k_dflt (refine' half_use (by k_asm) (by k_asm) (by k_asm) (by k_asm) (by k_asm) (by first | exact rfl | assumption) (by ktr_room) (by ktr_units) (by omega) (by omega) (by omega) ?_; k_whole; intro r9 tr9 h9 tk9 hr9 hr0 hr1 F9 N9; (try k_sweep)))
  k_with "call ref" => (k_here; (with_reducible show wpAny _ _ (call (Value.ref 95) _) _ _ _); k_dflt (refine' grouped_use (by k_asm) (by k_asm) (by k_asm) (by k_asm) (by k_asm) (by first | exact rfl | assumption) (by ktr_room) (by ktr_units) (by omega) (by omega) ?_; k_whole; intro y9 ty9 h9 tk9 hy9 hyl9 F9 N9; (have hyd9 := dot_room (r := r) hyl9 hp2 (Nat.le_trans hP1 (by decide))); (have hyd1 := hyd9.1); (have hyd2 := hyd9.2); clear hyd9; (try k_sweep)))
  k_with "binaryOp Pow int int" => (refine pow_r (by omega) (by omega) ?_; intro sc9 hsc9 hsc0 hsc1)
  k_with "binaryOp FloorDiv int int" => (refine fdiv_r (by omega) (by omega) (by omega) ?_; intro q9 hq9 hq0 hq1)
  k_with "binaryOp Mod int int" => (refine fmod_r (by omega) (by omega) ?_; intro q9 hq9 hq0 hq1)
  k_with "binaryOp Mult int int" => (first | (refine mul_r 12000 1000 (by omega) (by omega) (by omega) (by omega) (by mul_fits) ?_; intro c9 hc9 hc0 hc1) | (refine mul_r (12000 * 1000) 10000 (by omega) (by omega) (by omega) (by omega) (by mul_fits) ?_; intro c9 hc9 hc0 hc1))
  k_with "unf" => repeat' (first | ((fail_if_success (first | (with_reducible show wpAny _ _ (execs (Stmt.If (Expr.BoolOp _ _ _) _ _ _ :: _) _) _ _ _) | (with_reducible show wpAny _ _ (exec (Stmt.While _ _ _ _) _) _ _ _) | (with_reducible show WEnd _ _ _ _ _ _ _ _ _) | (with_reducible show REnd _ _ _ _ _ _ _ _ _) | (with_reducible show Mine.WDone _ _ _ _ _ _ _ _) | (with_reducible show Mine.CPost _ _ _ _ _ _ _ _) | (with_reducible show wpAny _ _ (pyIter _) (fun it s₂ => LoopAtV _ _ _ _ _ _ _ _ _ it s₂) _ _))); first | (k_unfold; (try dsimp only)) | (k_end; wrow_close) | walk1 | (dsimp only; walk1) | (leave1; walk_say "STEP leave1"; try dsimp only)) | fail "no step")
  intro dp un gd cn cs ad ccd cl outer A₀ base h₀ L m s Q E B F X N T hk hd hu hret hexc
  refine wpAny_call ?_
  k_dflt cell_enter
  (rename Fr _ _ _ _ => lF); replace lF : Fr _ _ _ (fun y' => List.lookup y' [(PySem.Str.ofString "bottom", .int b tb), (PySem.Str.ofString "top", .int a ta), (PySem.Str.ofString "picture", .ref p)]) := lF
  obtain ⟨sc, hsc⟩ : ∃ v : Int, v = 10 ^ mr.toNat := ⟨_, rfl⟩
  obtain ⟨N, hN⟩ : ∃ v : Int, v = hev (a * fa * sc) b := ⟨_, rfl⟩
  obtain ⟨W, hW⟩ : ∃ v : Int, v = N.fdiv sc := ⟨_, rfl⟩
  obtain ⟨R, hR⟩ : ∃ v : Int, v = N.fmod sc := ⟨_, rfl⟩
  rw [← hsc, ← hN, ← hW, ← hR] at hret
  ktr_unf
  (rename _ = 10 ^ Int.toNat _ => e1); rw [← hsc] at e1; have e1' := e1.symm; subst e1'
  (rename _ = a * fa => e2); subst e2
  (rename _ = a * fa * sc => e3); subst e3
  (rename _ = hev _ _ => e4); rw [← hN] at e4; have e4' := e4.symm; subst e4'
  (rename _ = Int.fdiv _ _ => e5); rw [← hW] at e5; have e5' := e5.symm; subst e5'
  (rename _ = Int.fmod _ _ => e6); rw [← hR] at e6; have e6' := e6.symm; subst e6'
  clear e1 e4 e5 e6
  (rename Fr _ _ _ _ => lF0); (rename News _ _ _ _ => lN)
  obtain ⟨R0, hR0⟩ : ∃ v : PySem.Str, v = PySem.Txt.slice (PySem.Str.ofString (toString (R + sc))) (some 1) none := ⟨_, rfl⟩
  obtain ⟨W0, hW0⟩ : ∃ v : PySem.Str, v = PySem.Str.ofString (toString W) := ⟨_, rfl⟩
  rw [← hR0, ← hW0] at lF0
  have hw1 := num_len (n := W) (by omega) (by omega)
  have hr1 := num_len (n := R + sc) (by omega) (by omega)
  rw [← hW0] at hw1
  have hR0s : sg R0 = (dg (R + sc)).drop 1 := by rw [hR0, sg_from (by decide) (by omega), sg_num (by omega)]; rfl
  have hW0s : sg W0 = dg W := by rw [hW0, sg_num (by omega)]
  have hR0l : R0.length ≤ 14 := by rw [← sg_len, hR0s, List.length_drop, ← sg_num (by omega), sg_len]; omega
  rw [← hR0s, ← hW0s] at hret
  obtain ⟨t1', t2', t3', t4', lF⟩ : ∃ t1' t2' t3' t4', Fr _ _ _ (fun y => List.lookup y [(PySem.Str.ofString "rest", .str R0 t1'), (PySem.Str.ofString "whole", .str W0 t2'), (PySem.Str.ofString "number", .int N t3'), (PySem.Str.ofString "scale", .int sc t4'), (PySem.Str.ofString "bottom", .int b tb), (PySem.Str.ofString "top", .int a ta), (PySem.Str.ofString "picture", .ref p)]) :=
    ⟨_, _, _, _, Fr_as lF0 (fr_agree [PySem.Str.ofString "rest", PySem.Str.ofString "whole", PySem.Str.ofString "number", PySem.Str.ofString "scale", PySem.Str.ofString "bottom", PySem.Str.ofString "top", PySem.Str.ofString "picture"] (by tb_start) (by tb_rel))⟩
  clear lF0
  refine' while_ownD (σ := PySem.Str × PySem.Tok) (fun c y => List.lookup y [(PySem.Str.ofString "rest", .str c.1 c.2), (PySem.Str.ofString "whole", .str W0 t2'), (PySem.Str.ofString "number", .int N t3'), (PySem.Str.ofString "scale", .int sc t4'), (PySem.Str.ofString "bottom", .int b tb), (PySem.Str.ofString "top", .int a ta), (PySem.Str.ofString "picture", .ref p)]) (fun _ => (p, instObj 63 dx) :: (dx, dictOf [⟨h1, .str (PySem.Str.ofString "before") k1, .str x tx⟩, ⟨h2, .str (PySem.Str.ofString "after") k2, .str z tz⟩, ⟨h3, .str (PySem.Str.ofString "least_whole") k3, .int lw t3⟩, ⟨h4, .str (PySem.Str.ofString "group") k4, .int gr t4⟩, ⟨h5, .str (PySem.Str.ofString "least_rest") k5, .int lr t5⟩, ⟨h6, .str (PySem.Str.ofString "most_rest") k6, .int mr t6⟩, ⟨h7, .str (PySem.Str.ofString "factor") k7, .int fa t7⟩] 7) :: rest)
      (fun c => c.1.length ≤ 14 ∧ stp lr.toNat (sg c.1) = stp lr.toNat (sg R0)) (fun c => c.1.length) (fun c => c.1.length ≤ 14 ∧ sg c.1 = stp lr.toNat (sg R0)) (R0, t1') lF lN (fun _ => rfl) ?z3 ?zp ?zt ?zd ?zE
  case z3 => exact fun _ h => h
  case zp => exact ⟨hR0l, rfl⟩
  case zE => passes_own
  case zt =>
    refine fa2 ?_
    intro r tr h tk hPP F1 N1
    dsimp only at F1 N1 hPP ⊢
    have hP1 := hPP.1
    have hP2 := hPP.2
    clear hPP
    clear lF lN
    have hrl := sg_len r
    ktr_unf
    · (rename Fr _ _ _ _ => lF); (rename News _ _ _ _ => lN); (rename lr < (r.length : Int) => hlt); (rename (_ == _) = true => ho)
      have hr0 : 0 < r.length := by omega
      rw [last_beq hr0, decide_eq_true_eq] at ho
      have hi := sg_init hr0
      refine' WEnd.intro (PySem.Txt.slice r none (some (-1)), _) lF lN (fr_agree [PySem.Str.ofString "rest", PySem.Str.ofString "whole", PySem.Str.ofString "number", PySem.Str.ofString "scale", PySem.Str.ofString "bottom", PySem.Str.ofString "top", PySem.Str.ofString "picture"] ?z1 ?z2) ?z3 ?zp ?zm
      case z1 => tb_start
      case z2 => tb_rel
      case z3 => exact fun _ h => h
      case zp => exact ⟨by dsimp only; rw [← sg_len, hi, List.length_dropLast]; omega, by dsimp only; rw [hi, ← hP2, ← stp_step (by omega) ho]⟩
      case zm => dsimp only; rw [← sg_len, hi, List.length_dropLast]; omega
    · (rename Fr _ _ _ _ => lF); (rename News _ _ _ _ => lN); (rename lr < (r.length : Int) => hlt); (rename (_ == _) = false => ho)
      have hr0 : 0 < r.length := by omega
      rw [last_beq hr0, decide_eq_false_iff_not] at ho
      refine WDone.intro lF lN ⟨hP1, ?_⟩
      rw [← hP2]; exact (stp_stop fun c => ho c.2).symm
    · (rename Fr _ _ _ _ => lF); (rename News _ _ _ _ => lN); (rename ¬ lr < (r.length : Int) => hlt)
      refine WDone.intro lF lN ⟨hP1, ?_⟩
      have hc : ¬ (lr.toNat < (sg r).length ∧ (sg r).getLast? = some 48) := fun c => hlt (by have := c.1; omega)
      rw [← hP2]; exact (stp_stop hc).symm
  case zd =>
    refine fa2 ?_
    intro r tr h tk hPP F1 N1
    dsimp only at F1 N1 hPP ⊢
    have hP1 := hPP.1
    have hP2 := hPP.2
    clear hPP
    clear lF lN
    have hrl := sg_len r
    have he0 := empty_len
    ktr_unf
    (rename Fr _ _ _ _ => lF); (rename News _ _ _ _ => lN)
    refine' cut_own (σ := PySem.Str × PySem.Tok) (fun c y => List.lookup y [(PySem.Str.ofString "rest", .str r tr), (PySem.Str.ofString "whole", .str c.1 c.2), (PySem.Str.ofString "number", .int N t3'), (PySem.Str.ofString "scale", .int sc t4'), (PySem.Str.ofString "bottom", .int b tb), (PySem.Str.ofString "top", .int a ta), (PySem.Str.ofString "picture", .ref p)]) (fun _ => (p, instObj 63 dx) :: (dx, dictOf [⟨h1, .str (PySem.Str.ofString "before") k1, .str x tx⟩, ⟨h2, .str (PySem.Str.ofString "after") k2, .str z tz⟩, ⟨h3, .str (PySem.Str.ofString "least_whole") k3, .int lw t3⟩, ⟨h4, .str (PySem.Str.ofString "group") k4, .int gr t4⟩, ⟨h5, .str (PySem.Str.ofString "least_rest") k5, .int lr t5⟩, ⟨h6, .str (PySem.Str.ofString "most_rest") k6, .int mr t6⟩, ⟨h7, .str (PySem.Str.ofString "factor") k7, .int fa t7⟩] 7) :: rest)
      (fun c => c.1.length ≤ 15 ∧ sg (PySem.Txt.mul (PySem.Str.ofString "0") (lw - (c.1.length : Int)) ++ c.1) = wz lw.toNat (sg W0) (sg r)) lF lN ?cu1 ?cu2
    case cu1 =>
      ktr_unf
      all_goals (rename Fr _ _ _ _ => lF); (rename News _ _ _ _ => lN)
      all_goals first
        | exact CPost.intro (W0, _) lF lN (fr_agree [PySem.Str.ofString "rest", PySem.Str.ofString "whole", PySem.Str.ofString "number", PySem.Str.ofString "scale", PySem.Str.ofString "bottom", PySem.Str.ofString "top", PySem.Str.ofString "picture"] (by tb_start) (by tb_rel)) (fun _ h => h) ⟨hw1.1, by with_reducible first | exact wzB1 (by assumption) (by assumption) | exact wzB2 (by assumption) (by assumption) | exact wzB3 (by assumption) (by assumption)⟩
        | exact CPost.intro (PySem.Str.ofString "", _) lF lN (fr_agree [PySem.Str.ofString "rest", PySem.Str.ofString "whole", PySem.Str.ofString "number", PySem.Str.ofString "scale", PySem.Str.ofString "bottom", PySem.Str.ofString "top", PySem.Str.ofString "picture"] (by tb_start) (by tb_rel)) (fun _ h => h) ⟨by dsimp only; rw [empty_len]; decide, by dsimp only; rw [empty_len]; exact wzA (by assumption) (by assumption) (by assumption)⟩
    case cu2 =>
      refine fa2 ?_
      intro V tV h tk hPP F1 N1
      dsimp only at F1 N1 hPP ⊢
      have hV1 := hPP.1
      have hV2 := hPP.2
      clear hPP
      clear lF lN
      k_with "binaryOp Mult str int" => (refine SB.mul (mulOk_of 16 1048576 (by first | decide | omega) (by omega) (by omega) (by decide) (by decide)) ?_; intro _ _)
      obtain ⟨hp1, hp2, hp3⟩ := pad_room hlw hlw' (Nat.le_trans hV1 (by decide))
      ktr_unf
      all_goals ((rename Fr h₀ _ _ _ => zF); (rename News h₀ _ _ _ => zN); (with_reducible rename sg _ = grp _ _ => hy9); refine hret _ _ _ _ ⟨_, _, rfl, ?_, rfl⟩ zF zN)
      all_goals first | exact finA hP2 hV2 hy9 (by assumption) | exact finB hP2 hV2 hy9 (by assumption)
end Mine
namespace Mine
def padl (k : Nat) (l : List Nat) : List Nat := List.replicate (k + 1 - l.length) 48 ++ l
theorem fig_len {mr : Int} {n : Nat} (h0 : 0 ≤ mr) (h4 : mr ≤ 4) (h1 : n ≤ 15) (h2 : 0 < n) : (mr.toNat + 1 - n) + n ≤ 20 ∧ mr + 1 ≤ (((mr.toNat + 1 - n) + n : Nat) : Int) := by
  obtain ⟨k, rfl⟩ := Int.eq_ofNat_of_zero_le h0
  show (k + 1 - n) + n ≤ 20 ∧ ((k + 1 : Nat) : Int) ≤ ((k + 1 - n + n : Nat) : Int)
  rw [Nat.sub_add_eq_max]
  exact ⟨Nat.max_le.mpr ⟨Nat.le_trans (Nat.succ_le_succ (Int.ofNat_le.mp h4)) (by decide), Nat.le_trans h1 (by decide)⟩, Int.ofNat_le.mpr (Nat.le_max_left _ _)⟩
theorem fig_sub {x : Nat} {m : Int} (h0 : 0 ≤ m) : ((x : Int) - m).toNat = x - m.toNat := toNat_sub h0
theorem fig_cut {x : Nat} {m : Int} (h0 : 0 ≤ m) (h : m + 1 ≤ x) : 0 ≤ (x : Int) - m ∧ (x : Int) - m ≤ x := sub_in h0 (Int.le_of_lt (Int.lt_of_add_one_le h))
theorem fig_pad {n : Nat} {m : Int} (h0 : 0 ≤ m) : (m + 1 - (n : Int)).toNat = m.toNat + 1 - n := toNat_pad h0
theorem fig_con (w : World) (mean : ExcName → Option Value) (mg mb : PySem.Str → Option Value) (lw gr lr mr a b : Int) (tlw tgr tlr tmr ta tb : PySem.Tok) (rest : Obs)
    (hlw : 0 ≤ lw) (hlw' : lw ≤ 10) (hgr : 0 ≤ gr) (hgr' : gr ≤ 100) (hlr : 0 ≤ lr) (hlr' : lr ≤ 10) (hmr : 0 ≤ mr) (hmr' : mr ≤ 4) (ha : 0 ≤ a) (ha' : a ≤ 12000 * 1000) (hb : 0 < b) (hb' : b ≤ 2000) :
    Con w mean mg mb 151 5 [.int lw tlw, .int gr tgr, .int lr tlr, .int mr tmr, .int a ta, .int b tb] rest
      (fun v news' => ∃ y t, v = .str y t ∧ sg y = fin lw.toNat gr.toNat lr.toNat ((padl mr.toNat (dg (nrs (a * 10 ^ mr.toNat) b))).take ((padl mr.toNat (dg (nrs (a * 10 ^ mr.toNat) b))).length - mr.toNat)) ((padl mr.toNat (dg (nrs (a * 10 ^ mr.toNat) b))).drop ((padl mr.toNat (dg (nrs (a * 10 ^ mr.toNat) b))).length - mr.toNat)) ∧ news' = rest) False := by
  have kf : kh w.params = kh w.params ∧ PySem.Challenge.rw_xm0635_01 = PySem.Challenge.rw_xm0635_01 := by k_fill; exact ⟨rfl, rfl⟩
  clear kf
  w_top off
  k_with_none
  k_with "subscriptTail Name Constant ref int" => (k_here; (with_reducible show wpAny _ _ (subscriptTail _ _ (Value.ref _) (Value.int _ _)) _ _ _); k_dflt (refine' item_at (IsL.isList (News.get (by k_asm) (by k_mem))) (by decide) (by decide) (by rfl) ?_ (by with_unfolding_all rfl); k_whole))
  k_with "binaryOp FloorDiv int int" => (refine PyProof.Rows.floordiv_int (by omega) ?_)
  k_with "binaryOp Mod int int" => (refine PyProof.Rows.mod_int (by omega) ?_)
  k_with "unf" => repeat' (first | ((fail_if_success (first | (with_reducible show wpAny _ _ (exec (Stmt.While _ _ _ _) _) _ _ _) | (with_reducible show WEnd _ _ _ _ _ _ _ _ _) | (with_reducible show REnd _ _ _ _ _ _ _ _ _) | (with_reducible show Mine.WDone _ _ _ _ _ _ _ _) | (with_reducible show Mine.CPost _ _ _ _ _ _ _ _) | (with_reducible show wpAny _ _ (pyIter _) (fun it s₂ => LoopAtV _ _ _ _ _ _ _ _ _ it s₂) _ _))); first | (k_unfold; (try dsimp only)) | (k_end; wrow_close) | walk1 | (dsimp only; walk1) | (leave1; walk_say "STEP leave1"; try dsimp only)) | fail "no step")
  k_with "WPost" => dsimp only [WPost]
  k_with "RPost" => dsimp only [RPost]
  k_with "exec For Name Call cons nil" => (k_here; (rename Fr _ _ _ _ => lF'); (with_unfolding_all refine' For_invVF lF' (by exact rfl) (by exact rfl) ?_; k_whole))
  k_with "exec For Name Subscript cons nil" => (k_here; (rename Fr _ _ _ _ => lF'); (with_unfolding_all refine' For_invVF lF' (by exact rfl) (by exact rfl) ?_; k_whole))
  k_with "tb1" => (repeat' (first | exact trivial | refine FrAg.cons (by rfl) ?_))
  k_with "tb2" => first | (intro y hy; simp only [List.forall_mem_cons] at hy; simp [lk_cons, hy]; done) | (intro y hx hy; simp only [List.forall_mem_cons] at hy; simp [lk_cons, hx, hy]; done)
  k_with "pick" => first | exact Pick.head (by k_all) | exact Pick.tail (by k_ne) (by kwd_rel)
  k_with "units" => (have hcL9 := cLine_is; (try simp only [units_under_make, units_in1, units_deeper, Around.mark_units, units_caller] at *); (try dsimp only [ktrTop] at *); omega)
  k_with "om" => (with_reducible (first | (show (_ : Int) ≤ _; first | exact lo_of (by first | assumption | exact And.left (by assumption)) (by decide) | exact hi_of1 (by first | assumption | exact And.right (by assumption)) (by decide) | exact hi_of2 (by first | assumption | exact And.right (by assumption)) (by decide) | exact lo_pos (by assumption) (by decide) | exact And.left (by assumption)) | (show (_ : Int) < _; first | exact And.right (by assumption) | exact hi_of3 (by first | assumption | exact And.right (by assumption)) (by decide) | exact hi_of4 (by first | assumption | exact And.right (by assumption)) (by decide) | exact lo_lt (by first | assumption | exact And.left (by assumption)) (by decide)) | (show (_ : Nat) < _; first | exact room2 (by assumption) (by decide) | exact room1 (by assumption) (by decide) | exact room0 (by assumption) | exact nhi_of3 (by assumption) (by decide) | exact nhi_of4 (by assumption) (by decide)) | (show (_ : Nat) ≤ _; first | exact nhi_of2 (by assumption) (by decide) | exact nhi_of1 (by assumption) (by decide)) | (show @Ne Nat _ _; first | exact Ne.symm (by assumption) | exact Nat.ne_of_gt (by first | assumption | exact And.left (by assumption) | exact And.left (And.right (by assumption)) | exact And.left (And.right (And.right (by assumption))) | exact And.left (And.right (And.right (And.right (by assumption))))) | exact Nat.ne_of_lt (by first | assumption | exact And.left (by assumption) | exact And.left (And.right (by assumption)) | exact And.left (And.right (And.right (by assumption))) | exact And.left (And.right (And.right (And.right (by assumption)))))) | (show _ ∧ _; exact And.intro (by omega) (by omega))))
  k_with "call ref" => (k_here; (with_reducible show wpAny _ _ (call (Value.ref 137) _) _ _ _); k_dflt (refine' near_use (by k_asm) (by k_asm) (by k_asm) (by k_asm) (by k_asm) (by first | exact rfl | assumption) (by ktr_room) (by ktr_units) (by omega) (by omega) (by omega) (by omega) ?_; k_whole; intro r9 tr9 h9 tk9 hr9 hr0 hr1 hr2 hlz9 hlp9 F9 N9; (have hpd9 := fig_room hmr hmr' hlz9); (try k_sweep)))
  k_with "call ref" => (k_here; (with_reducible show wpAny _ _ (call (Value.ref 144) _) _ _ _); k_dflt (refine' pieces_use (by k_asm) (by k_asm) (by k_asm) (by k_asm) (by k_asm) (by first | exact rfl | assumption) (by ktr_room) (by ktr_units) (by omega) (by omega) (by omega) ?_; k_whole; intro y9 ty9 h9 tk9 hy9 hyl9 F9 N9; (have hyd9 := dot_room (r := r) hyl9 hp2 hP1); (have hyd1 := hyd9.1); (have hyd2 := hyd9.2); clear hyd9; (try k_sweep)))
  k_with "binaryOp Pow int int" => (refine pow_r (by omega) (by omega) ?_; intro sc9 hsc9 hsc0 hsc1)
  k_with "binaryOp Mult int int" => (refine mul_r (12000 * 1000) 10000 (by omega) (by omega) (by omega) (by omega) (by mul_fits) ?_; intro c9 hc9 hc0 hc1)
  k_with "unf" => repeat' (first | ((fail_if_success (first | (with_reducible show wpAny _ _ (execs (Stmt.If (Expr.BoolOp _ _ _) _ _ _ :: _) _) _ _ _) | (with_reducible show wpAny _ _ (exec (Stmt.While _ _ _ _) _) _ _ _) | (with_reducible show WEnd _ _ _ _ _ _ _ _ _) | (with_reducible show REnd _ _ _ _ _ _ _ _ _) | (with_reducible show Mine.WDone _ _ _ _ _ _ _ _) | (with_reducible show Mine.CPost _ _ _ _ _ _ _ _) | (with_reducible show wpAny _ _ (pyIter _) (fun it s₂ => LoopAtV _ _ _ _ _ _ _ _ _ it s₂) _ _))); first | (k_unfold; (try dsimp only)) | (k_end; wrow_close) | walk1 | (dsimp only; walk1) | (leave1; walk_say "STEP leave1"; try dsimp only)) | fail "no step")
  intro dp un gd cn cs ad ccd cl outer A₀ base h₀ L m s Q E B F X N T hk hd hu hret hexc
  refine wpAny_call ?_
  k_dflt cell_enter
  (rename Fr _ _ _ _ => lF); replace lF : Fr _ _ _ (fun y' => List.lookup y' [(PySem.Str.ofString "bottom", .int b tb), (PySem.Str.ofString "top", .int a ta), (PySem.Str.ofString "most", .int mr tmr), (PySem.Str.ofString "least", .int lr tlr), (PySem.Str.ofString "size", .int gr tgr), (PySem.Str.ofString "must", .int lw tlw)]) := lF
  obtain ⟨sc, hsc⟩ : ∃ v : Int, v = 10 ^ mr.toNat := ⟨_, rfl⟩
  obtain ⟨N, hN⟩ : ∃ v : Int, v = nrs (a * sc) b := ⟨_, rfl⟩
  rw [← hsc, ← hN] at hret
  have hone : (PySem.Str.ofString "0").length = 1 := by rw [lit_zero, len_tx]; rfl
  ktr_unf
  (rename _ = 10 ^ Int.toNat _ => e1); rw [← hsc] at e1; have e1' := e1.symm; subst e1'
  (rename _ = a * sc => e3); subst e3
  (rename _ = nrs _ _ => e4); rw [← hN] at e4; have e4' := e4.symm; subst e4'
  clear e1 e4
  (rename Fr _ _ _ _ => lF0); (rename News _ _ _ _ => lN); (rename 0 ≤ N => hN0); (rename 0 < (PySem.Str.ofString (toString N)).length => hS1); (rename (PySem.Str.ofString (toString N)).length ≤ 15 => hS2)
  obtain ⟨T0, hT0⟩ : ∃ v : PySem.Str, v = PySem.Txt.mul (PySem.Str.ofString "0") (mr + 1 - ((PySem.Str.ofString (toString N)).length : Int)) ++ PySem.Str.ofString (toString N) := ⟨_, rfl⟩
  rw [← hT0] at lF0
  obtain ⟨W0, hW0⟩ : ∃ v : PySem.Str, v = PySem.Txt.slice T0 none (some ((T0.length : Int) - mr)) := ⟨_, rfl⟩
  obtain ⟨R0, hR0⟩ : ∃ v : PySem.Str, v = PySem.Txt.slice T0 (some ((T0.length : Int) - mr)) none := ⟨_, rfl⟩
  rw [← hR0, ← hW0] at lF0
  have hTs : sg T0 = padl mr.toNat (dg N) := by
    rw [hT0, sg_append, sg_mul, sg_num hN0, padl, ← sg_num hN0, sg_len]
    have : (mr + 1 - ((PySem.Str.ofString (toString N)).length : Int)).toNat = mr.toNat + 1 - (PySem.Str.ofString (toString N)).length := fig_pad hmr
    rw [this]
  have hTl := sg_len T0
  have hTl2 : T0.length ≤ 20 ∧ mr + 1 ≤ T0.length := by
    rw [← hTl, hTs, padl, List.length_append, List.length_replicate, ← sg_num hN0, sg_len]; exact fig_len hmr hmr' hS2 hS1
  have hW0s : sg W0 = (padl mr.toNat (dg N)).take ((padl mr.toNat (dg N)).length - mr.toNat) := by
    rw [hW0, sg_to (fig_cut hmr hTl2.2).1 (fig_cut hmr hTl2.2).2, ← hTs, hTl, fig_sub hmr]
  have hR0s : sg R0 = (padl mr.toNat (dg N)).drop ((padl mr.toNat (dg N)).length - mr.toNat) := by
    rw [hR0, sg_from (fig_cut hmr hTl2.2).1 (fig_cut hmr hTl2.2).2, ← hTs, hTl, fig_sub hmr]
  have hR0l : R0.length ≤ 20 := by rw [← sg_len, hR0s, ← hTs, List.length_drop, hTl]; exact Nat.le_trans (Nat.sub_le _ _) hTl2.1
  have hW0l : W0.length ≤ 20 := by rw [← sg_len, hW0s, ← hTs, List.length_take, hTl]; exact Nat.le_trans (Nat.min_le_right _ _) hTl2.1
  rw [← hR0s, ← hW0s] at hret
  obtain ⟨t1', t2', t3', lF⟩ : ∃ t1' t2' t3', Fr _ _ _ (fun y => List.lookup y [(PySem.Str.ofString "whole", .str W0 t2'), (PySem.Str.ofString "rest", .str R0 t1'), (PySem.Str.ofString "told", .str T0 t3'), (PySem.Str.ofString "bottom", .int b tb), (PySem.Str.ofString "top", .int a ta), (PySem.Str.ofString "most", .int mr tmr), (PySem.Str.ofString "least", .int lr tlr), (PySem.Str.ofString "size", .int gr tgr), (PySem.Str.ofString "must", .int lw tlw)]) :=
    ⟨_, _, _, Fr_as lF0 (fr_agree [PySem.Str.ofString "whole", PySem.Str.ofString "rest", PySem.Str.ofString "told", PySem.Str.ofString "bottom", PySem.Str.ofString "top", PySem.Str.ofString "most", PySem.Str.ofString "least", PySem.Str.ofString "size", PySem.Str.ofString "must"] (by tb_start) (by tb_rel))⟩
  clear lF0
  refine' while_ownD (σ := PySem.Str × PySem.Tok) (fun c y => List.lookup y [(PySem.Str.ofString "whole", .str W0 t2'), (PySem.Str.ofString "rest", .str c.1 c.2), (PySem.Str.ofString "told", .str T0 t3'), (PySem.Str.ofString "bottom", .int b tb), (PySem.Str.ofString "top", .int a ta), (PySem.Str.ofString "most", .int mr tmr), (PySem.Str.ofString "least", .int lr tlr), (PySem.Str.ofString "size", .int gr tgr), (PySem.Str.ofString "must", .int lw tlw)]) (fun _ => rest)
      (fun c => c.1.length ≤ 20 ∧ stp lr.toNat (sg c.1) = stp lr.toNat (sg R0)) (fun c => c.1.length) (fun c => c.1.length ≤ 20 ∧ sg c.1 = stp lr.toNat (sg R0)) (R0, t1') lF lN (fun _ => rfl) ?z3 ?zp ?zt ?zd ?zE
  case z3 => exact fun _ h => .tail _ h
  case zp => exact ⟨hR0l, rfl⟩
  case zE => passes_own
  case zt =>
    refine fa2 ?_
    intro r tr h tk hPP F1 N1
    dsimp only at F1 N1 hPP ⊢
    have hP1 := hPP.1
    have hP2 := hPP.2
    clear hPP
    clear lF lN
    have hrl := sg_len r
    ktr_unf
    · (rename Fr _ _ _ _ => lF); (rename News _ _ _ _ => lN); (rename lr < (r.length : Int) => hlt); (rename (_ == _) = true => ho)
      have hr0 : 0 < r.length := by omega
      rw [item_beq hr0, decide_eq_true_eq] at ho
      have hi := sg_init hr0
      refine' WEnd.intro (PySem.Txt.slice r none (some (-1)), _) lF lN (fr_agree [PySem.Str.ofString "whole", PySem.Str.ofString "rest", PySem.Str.ofString "told", PySem.Str.ofString "bottom", PySem.Str.ofString "top", PySem.Str.ofString "most", PySem.Str.ofString "least", PySem.Str.ofString "size", PySem.Str.ofString "must"] ?z1 ?z2) ?z3 ?zp ?zm
      case z1 => tb_start
      case z2 => tb_rel
      case z3 => exact fun _ h => h
      case zp => exact ⟨by dsimp only; rw [← sg_len, hi, List.length_dropLast]; omega, by dsimp only; rw [hi, ← hP2, ← stp_step (by omega) ho]⟩
      case zm => dsimp only; rw [← sg_len, hi, List.length_dropLast]; omega
    · (rename Fr _ _ _ _ => lF); (rename News _ _ _ _ => lN); (rename lr < (r.length : Int) => hlt); (rename (_ == _) = false => ho)
      have hr0 : 0 < r.length := by omega
      rw [item_beq hr0, decide_eq_false_iff_not] at ho
      refine WDone.intro lF lN ⟨hP1, ?_⟩
      rw [← hP2]; exact (stp_stop fun c => ho c.2).symm
    · (rename Fr _ _ _ _ => lF); (rename News _ _ _ _ => lN); (rename ¬ lr < (r.length : Int) => hlt)
      refine WDone.intro lF lN ⟨hP1, ?_⟩
      have hc : ¬ (lr.toNat < (sg r).length ∧ (sg r).getLast? = some 48) := fun c => hlt (by have := c.1; omega)
      rw [← hP2]; exact (stp_stop hc).symm
  case zd =>
    refine fa2 ?_
    intro r tr h tk hPP F1 N1
    dsimp only at F1 N1 hPP ⊢
    have hP1 := hPP.1
    have hP2 := hPP.2
    clear hPP
    clear lF lN
    have hrl := sg_len r
    have he0 := empty_len
    ktr_unf
    (rename Fr _ _ _ _ => lF); (rename News _ _ _ _ => lN)
    refine' cut_own (σ := PySem.Str × PySem.Tok) (fun c y => List.lookup y [(PySem.Str.ofString "whole", .str c.1 c.2), (PySem.Str.ofString "rest", .str r tr), (PySem.Str.ofString "told", .str T0 t3'), (PySem.Str.ofString "bottom", .int b tb), (PySem.Str.ofString "top", .int a ta), (PySem.Str.ofString "most", .int mr tmr), (PySem.Str.ofString "least", .int lr tlr), (PySem.Str.ofString "size", .int gr tgr), (PySem.Str.ofString "must", .int lw tlw)]) (fun _ => rest)
      (fun c => c.1.length ≤ 20 ∧ sg (PySem.Txt.mul (PySem.Str.ofString "0") (lw - (c.1.length : Int)) ++ c.1) = wz lw.toNat (sg W0) (sg r)) lF lN ?cu1 ?cu2
    case cu1 =>
      ktr_unf
      all_goals (rename Fr _ _ _ _ => lF); (rename News _ _ _ _ => lN)
      all_goals first
        | exact CPost.intro (W0, _) lF lN (fr_agree [PySem.Str.ofString "whole", PySem.Str.ofString "rest", PySem.Str.ofString "told", PySem.Str.ofString "bottom", PySem.Str.ofString "top", PySem.Str.ofString "most", PySem.Str.ofString "least", PySem.Str.ofString "size", PySem.Str.ofString "must"] (by tb_start) (by tb_rel)) (fun _ h => h) ⟨hW0l, by with_reducible first | exact wzB1 (by assumption) (by assumption) | exact wzB2 (by assumption) (by assumption) | exact wzB3 (by assumption) (by assumption)⟩
        | exact CPost.intro (PySem.Str.ofString "", _) lF lN (fr_agree [PySem.Str.ofString "whole", PySem.Str.ofString "rest", PySem.Str.ofString "told", PySem.Str.ofString "bottom", PySem.Str.ofString "top", PySem.Str.ofString "most", PySem.Str.ofString "least", PySem.Str.ofString "size", PySem.Str.ofString "must"] (by tb_start) (by tb_rel)) (fun _ h => h) ⟨by dsimp only; rw [empty_len]; decide, by dsimp only; rw [empty_len]; exact wzA (by assumption) (by assumption) (by assumption)⟩
    case cu2 =>
      refine fa2 ?_
      intro V tV h tk hPP F1 N1
      dsimp only at F1 N1 hPP ⊢
      have hV1 := hPP.1
      have hV2 := hPP.2
      clear hPP
      clear lF lN
      k_with "binaryOp Mult str int" => (refine SB.mul (mulOk_of 16 1048576 (by first | decide | omega) (by omega) (by omega) (by decide) (by decide)) ?_; intro _ _)
      obtain ⟨hp1, hp2, hp3⟩ := pad_room hlw hlw' hV1
      ktr_unf
      all_goals ((rename Fr h₀ _ _ _ => zF); (rename News h₀ _ _ _ => zN); (with_reducible rename sg _ = grp _ _ => hy9); refine hret _ _ _ _ ⟨_, _, rfl, ?_, rfl⟩ zF zN)
      all_goals first | exact finA hP2 hV2 hy9 (by assumption) | exact finB hP2 hV2 hy9 (by assumption)
end Mine
namespace Mine
theorem allLt_mem {d : PySem.Addr} : ∀ {l : Obs}, AllLt d l → ∀ p ∈ l, p.1 ≠ d
  | p :: r, h, q, hq => by
    rcases List.mem_cons.mp hq with rfl | hq
    · exact Nat.ne_of_lt h.1
    · exact allLt_mem h.2 q hq
  | [], _, _, hq => nomatch hq
theorem lit_hash : PySem.Str.ofString "#" = ⟨#[35]⟩ := by decide +kernel
theorem sg_mulH (k : Int) : sg (PySem.Txt.mul (PySem.Str.ofString "#") k) = List.replicate k.toNat 35 := by rw [lit_hash]; exact mul_one_list 35 k
/-- a row of signs, and what it asks -/
def RowOk (l : List Nat) (mu sz le mo : Int) : Prop :=
  ∃ (mb more : Nat) (wh pt : List Nat), wh.filter (· != 44) = List.replicate mb 35 ++ List.replicate mu.toNat 48 ∧ wh.length ≤ 20 ∧ sz = tailLen wh ∧ (pt = [46] ∨ (pt = [] ∧ le = 0 ∧ more = 0)) ∧
    l = wh ++ pt ++ List.replicate le.toNat 48 ++ List.replicate more 35 ∧ mo = le + more ∧ (mb : Int) + mu + le + more ≠ 0 ∧ 0 ≤ mu ∧ mu ≤ 4 ∧ 0 ≤ le ∧ le ≤ 3 ∧ more ≤ 2 ∧ mo ≤ 4
theorem row_end {W R : PySem.Str} {mb mu le mo sz : Int} {pt : List Nat} (hW : (sg W).filter (· != 44) = List.replicate mb.toNat 35 ++ List.replicate mu.toNat 48) (hl : W.length ≤ 20) (hs : sz = tailLen (sg W))
    (hp : pt = [46] ∨ (pt = [] ∧ le = 0 ∧ mo = 0)) (hR : sg R = sg W ++ pt ++ List.replicate le.toNat 48 ++ List.replicate mo.toNat 35)
    (h1 : 0 ≤ mb ∧ mb < 4) (h2 : 0 ≤ mu ∧ mu < 4) (h3 : 0 ≤ le ∧ le < 3) (h4 : 0 ≤ mo ∧ mo < 3) (h5 : mb + mu + le + mo ≠ 0) : RowOk (sg R) mu sz le (le + mo) :=
  ⟨mb.toNat, mo.toNat, sg W, pt, hW, by rw [sg_len]; exact hl, hs, by rcases hp with hp | hp; exact .inl hp; exact .inr ⟨hp.1, hp.2.1, by rw [hp.2.2]; rfl⟩, hR, by rw [Int.toNat_of_nonneg h4.1], by rw [Int.toNat_of_nonneg h1.1, Int.toNat_of_nonneg h4.1]; exact h5, h2.1, Int.le_of_lt h2.2, h3.1, Int.le_of_lt h3.2, toNat_le' (x := 2) h4.1 (Int.le_of_lt_add_one h4.2), by omega⟩
theorem comma_in {x : PySem.Str} (h : (PySem.Builtin.Str.occurrences x (PySem.Str.ofString ",") 0 x.length 1).isEmpty = false) : 44 ∈ sg x := by
  rw [lit_comma, occ_one] at h; simpa using h
theorem comma_out {x : PySem.Str} (h : (PySem.Builtin.Str.occurrences x (PySem.Str.ofString ",") 0 x.length 1).isEmpty = true) : 44 ∉ sg x := by
  rw [lit_comma, occ_one] at h; simpa using h
theorem item_ne_comma {x : PySem.Str} {i : Int} (h0 : 0 ≤ i) (h1 : i < x.length) : (PySem.Txt.item x i == PySem.Str.ofString ",") = decide ((sg x)[i.toNat]? = some 44) := by
  rw [beq_sg _ _ _ comma, sg_item h0 h1, decide_eq_decide, List.getD_eq_getElem?_getD]
  have := sg_len x
  rw [List.getElem?_eq_getElem (by omega)]
  simp
theorem tail_none {l : List Nat} (h : 44 ∉ l) : (0 : Int) = tailLen l := by rw [tailLen, if_neg h]; rfl
theorem behind_lt {x : PySem.Str} {b : Int} (h0 : 0 ≤ b) (hb : b ≤ x.length) (hm : 44 ∈ sg x) (hP : ∀ k : Nat, (x.length : Int) - 1 - b < k → (sg x)[k]? ≠ some 44) : b < x.length := by
  by_cases h : b < x.length
  · exact h
  · obtain ⟨k, hk⟩ := List.mem_iff_getElem?.mp hm
    exact absurd hk (hP k (by omega))
theorem cut_filter {l : List Nat} (k : Nat) : (l.take k ++ [44] ++ l.drop k).filter (· != 44) = l.filter (· != 44) := by
  rw [List.filter_append, List.filter_append]
  have e : List.filter (· != 44) [44] = ([] : List Nat) := by decide
  rw [e, List.append_nil, ← List.filter_append, List.take_append_drop]
end Mine
namespace Mine
def MustPost (g : Heap) (L : PySem.Addr) (s : Shared) (m : PySem.Str → Option Value) (led : Obs) (my le mo : Int) (fl : Flow) (s' : Shared) : Prop :=
  fl = .next ∧ ∃ (mu : Int) (tm : PySem.Tok) (h' : Heap) (tk' : Nat), s' = { s with heap := h', toks := tk' } ∧ Fr g L h' (fun y => if y = PySem.Str.ofString "must" then some (.int mu tm) else m y) ∧ News g L h' led ∧ 0 ≤ mu ∧ mu < 4 ∧ my + mu + le + mo ≠ 0
theorem w20 {w n : Nat} {r : Int} (h : w = n + (r - 0).toNat) (hn : n ≤ 8) (h0 : 0 ≤ r) (h1 : r < 3) : w ≤ 20 := by
  rw [Int.sub_zero] at h
  rw [h]; exact Nat.le_trans (Nat.add_le_add hn (toNat_le' (x := 3) h0 (Int.le_of_lt h1))) (by decide)
theorem ins_len {n i w : Nat} {r : Int} (h0 : 0 ≤ r) (h1 : r < (w : Int) + 1) (hw : w = n + i) : min r.toNat w + (0 + 1) + (w - r.toNat) = n + (i + 1) := by
  have hk := toNat_le' h0 (Int.le_of_lt_add_one h1)
  rw [Nat.min_eq_left hk, Nat.zero_add, Nat.add_right_comm, Nat.add_sub_cancel' hk, hw]; rfl
theorem row_room {W pt : PySem.Str} {le mo : Int} (hW : W.length ≤ 20) (hp : pt.length ≤ 1) (hl : 0 ≤ le ∧ le < 3) (hm : 0 ≤ mo ∧ mo < 3) :
    W.length + pt.length ≤ 21 ∧ (W ++ pt).length + (PySem.Txt.mul (PySem.Str.ofString "0") le).length ≤ 24 ∧ (W ++ pt ++ PySem.Txt.mul (PySem.Str.ofString "0") le).length + (PySem.Txt.mul (PySem.Str.ofString "#") mo).length ≤ 27 := by
  have e1 : W.length + pt.length ≤ 21 := Nat.add_le_add hW hp
  have e2 : (PySem.Txt.mul (PySem.Str.ofString "0") le).length ≤ 3 := by rw [← sg_len, sg_mul, List.length_replicate]; exact toNat_le' (x := 3) hl.1 (Int.le_of_lt hl.2)
  have e3 : (PySem.Txt.mul (PySem.Str.ofString "#") mo).length ≤ 3 := by rw [← sg_len, sg_mulH, List.length_replicate]; exact toNat_le' (x := 3) hm.1 (Int.le_of_lt hm.2)
  refine ⟨e1, ?_, ?_⟩
  · rw [len_append]; exact Nat.add_le_add e1 e2
  · rw [len_append, len_append]; exact Nat.add_le_add (Nat.add_le_add e1 e2) e3
theorem MustPost.intro {g : Heap} {L : PySem.Addr} {s : Shared} {m m' : PySem.Str → Option Value} {led : Obs} {my le mo mu : Int} {tm : PySem.Tok} {h' : Heap} {tk' : Nat} (F : Fr g L h' m') (N : News g L h' led) (e : ∀ y, m' y = if y = PySem.Str.ofString "must" then some (.int mu tm) else m y) (h0 : 0 ≤ mu) (h1 : mu < 4) (h2 : my + mu + le + mo ≠ 0) :
    MustPost g L s m led my le mo .next { s with heap := h', toks := tk' } := ⟨rfl, mu, tm, h', tk', rfl, Fr_as F e, N, h0, h1, h2⟩
theorem must_same {m : PySem.Str → Option Value} {mu : Int} {tm : PySem.Tok} (h : m (PySem.Str.ofString "must") = some (.int mu tm)) : ∀ y, m y = if y = PySem.Str.ofString "must" then some (.int mu tm) else m y := fun y => by
  by_cases hy : y = PySem.Str.ofString "must"
  · rw [if_pos hy, hy, h]
  · rw [if_neg hy]
theorem cut_must {M : Model} {Ar : Around} {env : Env} {st : Stmt} {rest : List Stmt} {Q : Flow → Shared → Prop} {E : Value → Shared → Prop} {s : Shared} {g : Heap} {L : PySem.Addr} {m : PySem.Str → Option Value} {led : Obs} {my le mo : Int} {t1 t2 t3 : PySem.Tok} (zF0 : Fr g L s.heap m) (zN0 : News g L s.heap led)
    (zh1 : m (PySem.Str.ofString "maybe") = some (.int my t1)) (zh2 : m (PySem.Str.ofString "least") = some (.int le t2)) (zh3 : m (PySem.Str.ofString "more") = some (.int mo t3))
    (h1 : wpAny M Ar (exec st env) (fun fl s' => MustPost g L s m led my le mo fl s') E s)
    (h2 : ∀ (mu : Int) (tm : PySem.Tok) (h' : Heap) (tk' : Nat), 0 ≤ mu → mu < 4 → my + mu + le + mo ≠ 0 → Fr g L h' (fun y => if y = PySem.Str.ofString "must" then some (.int mu tm) else m y) → News g L h' led → wpAny M Ar (execs rest env) Q E { s with heap := h', toks := tk' }) :
    wpAny M Ar (execs (st :: rest) env) Q E s := by
  refine wpAny_execs_cons (wpAny_mono h1 (fun fl s' q => ?_) fun _ _ x => x)
  obtain ⟨rfl, mu, tm, h', tk', rfl, F', N', e0, e1, e2⟩ := q
  exact h2 mu tm h' tk' e0 e1 e2 F' N'
end Mine
namespace Mine
theorem row_post {src D : PySem.Addr} {rest : Obs} {R : PySem.Str} {mu sz le mo a' b' : Int} {tR tmu tsz tle tmo ta' tb' : PySem.Tok} {n' : Nat} (h1 : RowOk (sg R) mu sz le mo) (h2 : 0 ≤ a') (h3 : 0 ≤ b') (h4 : b' < 2147483647) (h5 : src ≠ D) (h6 : ∀ p ∈ rest, p.1 ≠ D) :
    ∃ D₁ R₁ tR₁ mu₁ tmu₁ sz₁ tsz₁ le₁ tle₁ mo₁ tmo₁ a₁ b₁ ta₁ tb₁ n₁, Value.ref D = .ref D₁ ∧ RowOk (sg R₁) mu₁ sz₁ le₁ mo₁ ∧ 0 ≤ a₁ ∧ 0 ≤ b₁ ∧ b₁ < 2147483647 ∧ src ≠ D₁ ∧ (∀ p ∈ rest, p.1 ≠ D₁) ∧
        ((D, { cls := .type "tuple", data := .seq #[.str R tR, .int mu tmu, .int sz tsz, .int le tle, .int mo tmo] }) :: (src, listOf #[.int a' ta', .int b' tb'] n') :: rest : Obs) = (D₁, { cls := .type "tuple", data := .seq #[.str R₁ tR₁, .int mu₁ tmu₁, .int sz₁ tsz₁, .int le₁ tle₁, .int mo₁ tmo₁] }) :: (src, listOf #[.int a₁ ta₁, .int b₁ tb₁] n₁) :: rest :=
  ⟨_, _, _, _, _, _, _, _, _, _, _, _, _, _, _, _, rfl, h1, h2, h3, h4, h5, h6, rfl⟩
theorem row_con (w : World) (mean : ExcName → Option Value) (mg mb : PySem.Str → Option Value) (src : PySem.Addr) (a b : Int) (ta tb : PySem.Tok) (n : Nat) (rest : Obs)
    (ha : 0 ≤ a) (hb : 0 ≤ b) (hb' : b < 2147483647) (hr : ∀ p ∈ rest, p.1 ≠ src) :
    Con w mean mg mb 130 5 [.ref src] ((src, listOf #[.int a ta, .int b tb] n) :: rest)
      (fun v news' => ∃ D R tR mu tmu sz tsz le tle mo tmo a' b' ta' tb' n', v = .ref D ∧ RowOk (sg R) mu sz le mo ∧ 0 ≤ a' ∧ 0 ≤ b' ∧ b' < 2147483647 ∧ src ≠ D ∧ (∀ p ∈ rest, p.1 ≠ D) ∧
        news' = (D, { cls := .type "tuple", data := .seq #[.str R tR, .int mu tmu, .int sz tsz, .int le tle, .int mo tmo] }) :: (src, listOf #[.int a' ta', .int b' tb'] n') :: rest) False := by
  have kf : kh w.params = kh w.params ∧ PySem.Challenge.rw_xm0635_01 = PySem.Challenge.rw_xm0635_01 := by k_fill; exact ⟨rfl, rfl⟩
  clear kf
  w_top off
  k_with_none
  k_with "subscriptTail Name Constant ref int" => (k_here; (with_reducible show wpAny _ _ (subscriptTail _ _ (Value.ref _) (Value.int _ _)) _ _ _); k_dflt (refine' item_at (IsL.isList (News.get (by k_asm) (by k_mem))) (by decide) (by decide) (by rfl) ?_ (by with_unfolding_all rfl); k_whole))
  k_with "binaryOp FloorDiv int int" => (refine PyProof.Rows.floordiv_int (by omega) ?_)
  k_with "binaryOp Mod int int" => (refine PyProof.Rows.mod_int (by omega) ?_)
  k_with "unf" => repeat' (first | ((fail_if_success (first | (with_reducible show wpAny _ _ (exec (Stmt.While _ _ _ _) _) _ _ _) | (with_reducible show WEnd _ _ _ _ _ _ _ _ _) | (with_reducible show REnd _ _ _ _ _ _ _ _ _) | (with_reducible show Mine.WDone _ _ _ _ _ _ _ _) | (with_reducible show Mine.CPost _ _ _ _ _ _ _ _) | (with_reducible show wpAny _ _ (pyIter _) (fun it s₂ => LoopAtV _ _ _ _ _ _ _ _ _ it s₂) _ _))); first | (k_unfold; (try dsimp only)) | (k_end; wrow_close) | walk1 | (dsimp only; walk1) | (leave1; walk_say "STEP leave1"; try dsimp only)) | fail "no step")
  k_with "WPost" => dsimp only [WPost]
  k_with "RPost" => dsimp only [RPost]
  k_with "exec For Name Call cons nil" => (k_here; (rename Fr _ _ _ _ => lF'); (with_unfolding_all refine' For_invVF lF' (by exact rfl) (by exact rfl) ?_; k_whole))
  k_with "exec For Name Subscript cons nil" => (k_here; (rename Fr _ _ _ _ => lF'); (with_unfolding_all refine' For_invVF lF' (by exact rfl) (by exact rfl) ?_; k_whole))
  k_with "tb1" => (repeat' (first | exact trivial | refine FrAg.cons (by rfl) ?_))
  k_with "tb2" => first | (intro y hy; simp only [List.forall_mem_cons] at hy; simp [lk_cons, hy]; done) | (intro y hx hy; simp only [List.forall_mem_cons] at hy; simp [lk_cons, hx, hy]; done)
  k_with "pick" => first | exact Pick.head (by k_all) | exact Pick.tail (by k_ne) (by kwd_rel)
  k_with "units" => (have hcL9 := cLine_is; (try simp only [units_under_make, units_in1, units_deeper, Around.mark_units, units_caller] at *); (try dsimp only [ktrTop] at *); omega)
  k_with "om" => (with_reducible (first | (show (_ : Int) ≤ _; first | exact lo_of (by first | assumption | exact And.left (by assumption)) (by decide) | exact hi_of1 (by first | assumption | exact And.right (by assumption)) (by decide) | exact hi_of2 (by first | assumption | exact And.right (by assumption)) (by decide) | exact lo_pos (by assumption) (by decide) | exact And.left (by assumption)) | (show (_ : Int) < _; first | exact And.right (by assumption) | exact hi_of3 (by first | assumption | exact And.right (by assumption)) (by decide) | exact hi_of4 (by first | assumption | exact And.right (by assumption)) (by decide) | exact lo_lt (by first | assumption | exact And.left (by assumption)) (by decide)) | (show (_ : Nat) < _; first | exact room2 (by assumption) (by decide) | exact room1 (by assumption) (by decide) | exact room0 (by assumption) | exact nhi_of3 (by assumption) (by decide) | exact nhi_of4 (by assumption) (by decide)) | (show (_ : Nat) ≤ _; first | exact nhi_of2 (by assumption) (by decide) | exact nhi_of1 (by assumption) (by decide)) | (show @Ne Nat _ _; first | exact Ne.symm (by assumption) | exact Nat.ne_of_gt (by first | assumption | exact And.left (by assumption) | exact And.left (And.right (by assumption)) | exact And.left (And.right (And.right (by assumption))) | exact And.left (And.right (And.right (And.right (by assumption))))) | exact Nat.ne_of_lt (by first | assumption | exact And.left (by assumption) | exact And.left (And.right (by assumption)) | exact And.left (And.right (And.right (by assumption))) | exact And.left (And.right (And.right (And.right (by assumption)))))) | (show _ ∧ _; exact And.intro (by omega) (by omega))))
  k_with "call ref" => (k_here; (with_reducible show wpAny _ _ (call (Value.ref 116) _) _ _ _); k_dflt (refine' take_use (by k_asm) (by k_asm) (by k_asm) (by k_asm) (by k_asm) (by first | exact rfl | assumption) (by kwd_rel) (by ktr_room) (by ktr_units) (by omega) (by omega) (by omega) (by omega) (by omega) ?_; k_whole; intro r9 tr9 a9 b9 ta9 tb9 n9 h9 tk9 hr0 hr1 ha0 hb0 hb1 F9 N9; (try k_sweep)))
  k_with "unf" => repeat' (first | ((fail_if_success (first | (with_reducible show wpAny _ _ (execs (Stmt.If (Expr.Compare (Expr.BinOp _ _ _ _) _ _ _) _ _ _ :: _) _) _ _ _) | (with_reducible show wpAny _ _ (execs (Stmt.If (Expr.Compare (Expr.Constant _ _ _) _ _ _) _ _ _ :: _) _) _ _ _) | (with_reducible show wpAny _ _ (execs (Stmt.Assign [Expr.Name (PySem.Str.ofString "point") _] _ _ :: _) _) _ _ _) | (with_reducible show Mine.MustPost _ _ _ _ _ _ _ _ _ _) | (with_reducible show wpAny _ _ (exec (Stmt.While _ _ _ _) _) _ _ _) | (with_reducible show WEnd _ _ _ _ _ _ _ _ _) | (with_reducible show REnd _ _ _ _ _ _ _ _ _) | (with_reducible show Mine.WDone _ _ _ _ _ _ _ _) | (with_reducible show Mine.CPost _ _ _ _ _ _ _ _) | (with_reducible show wpAny _ _ (pyIter _) (fun it s₂ => LoopAtV _ _ _ _ _ _ _ _ _ it s₂) _ _))); first | (k_unfold; (try dsimp only)) | (k_end; wrow_close) | walk1 | (dsimp only; walk1) | (leave1; walk_say "STEP leave1"; try dsimp only)) | fail "no step")
  intro dp un gd cn cs ad ccd cl outer A₀ base h₀ L m s Q E B F X N T hk hd hu hret hexc
  refine wpAny_call ?_
  k_dflt cell_enter
  (rename Fr _ _ _ _ => lF); replace lF : Fr _ _ _ (fun y' => List.lookup y' [(PySem.Str.ofString "source", .ref src)]) := lF
  have hone : (PySem.Str.ofString "0").length = 1 := by decide +kernel
  have hone' : (PySem.Str.ofString "#").length = 1 := by decide +kernel
  ktr_unf
  (rename Fr _ _ _ _ => lF); (rename News _ _ _ _ => lN)
  refine cut_must lF lN (by rfl) (by rfl) (by rfl) ?_ ?_
  · ktr_unf
    · (rename Fr _ _ _ _ => lF'); (rename News _ _ _ _ => lN')
      exact MustPost.intro lF' lN' (fun _ => rfl) (by omega) (by omega) (by omega)
    · (rename Fr _ _ _ _ => lF'); (rename News _ _ _ _ => lN')
      exact MustPost.intro lF' lN' (must_same (by rfl)) (by omega) (by omega) (by omega)
  clear lF lN
  intro mu' tm' h' tk' hmu0' hmu1' hsum' F' N'
  ktr_unf
  all_goals
    (rename Fr _ _ _ _ => lF0); (rename News _ _ _ _ => lN); (rename IsRange _ _ _ _ _ _ _ _ => rgX)
    obtain ⟨my, mu, le, mo, W0, t1, t2, t3, t4, t5, t6, lF, hmy, hmu, hle, hmo, hsum, hW⟩ : ∃ (my mu le mo : Int) (W0 : PySem.Str) (t1 t2 t3 t4 t5 t6 : PySem.Tok), Fr _ _ _ (fun y => List.lookup y [(PySem.Str.ofString "whole", .str W0 t1), (PySem.Str.ofString "behind", .int 0 t2), (PySem.Str.ofString "must", .int mu t3), (PySem.Str.ofString "least", .int le t4), (PySem.Str.ofString "more", .int mo t5), (PySem.Str.ofString "maybe", .int my t6), (PySem.Str.ofString "source", .ref src)]) ∧
        (0 ≤ my ∧ my < 4) ∧ (0 ≤ mu ∧ mu < 4) ∧ (0 ≤ le ∧ le < 3) ∧ (0 ≤ mo ∧ mo < 3) ∧ my + mu + le + mo ≠ 0 ∧ sg W0 = List.replicate my.toNat 35 ++ List.replicate mu.toNat 48 :=
      ⟨_, _, _, _, _, _, _, _, _, _, _, Fr_as lF0 (fr_agree [PySem.Str.ofString "whole", PySem.Str.ofString "behind", PySem.Str.ofString "must", PySem.Str.ofString "least", PySem.Str.ofString "more", PySem.Str.ofString "maybe", PySem.Str.ofString "source"] (by tb_start) (by tb_rel)), by omega, by omega, by omega, by omega, by omega, by first | rw [sg_append, sg_mulH, sg_mul] | (rw [sg_append, sg_mulH, lit_zero, sg_tx]; rfl)⟩
    clear lF0
    have hW0l : W0.length ≤ 8 := by rw [← sg_len, hW, List.length_append, List.length_replicate, List.length_replicate]; omega
    have hWf : (sg W0).filter (· != 44) = List.replicate my.toNat 35 ++ List.replicate mu.toNat 48 := by rw [hW]; simp
    refine' range_own (n := _) (σ := PySem.Str × PySem.Tok × Option Value × Int × Int × PySem.Tok × PySem.Tok × Nat) (fun c y => if y = PySem.Str.ofString "at" then c.2.2.1 else List.lookup y [(PySem.Str.ofString "whole", .str c.1 c.2.1), (PySem.Str.ofString "behind", .int 0 t2), (PySem.Str.ofString "must", .int mu t3), (PySem.Str.ofString "least", .int le t4), (PySem.Str.ofString "more", .int mo t5), (PySem.Str.ofString "maybe", .int my t6), (PySem.Str.ofString "source", .ref src)]) (fun c => (src, listOf #[.int c.2.2.2.1 c.2.2.2.2.2.1, .int c.2.2.2.2.1 c.2.2.2.2.2.2.1] c.2.2.2.2.2.2.2) :: rest)
      (fun i c => (sg c.1).filter (· != 44) = List.replicate my.toNat 35 ++ List.replicate mu.toNat 48 ∧ c.1.length = W0.length + i ∧ 0 ≤ c.2.2.2.1 ∧ 0 ≤ c.2.2.2.2.1 ∧ c.2.2.2.2.1 < 2147483647) (src :: rest.map (·.1)) (W0, t1, none, _, _, _, _, _) rfl rgX ?z1 ?z2 lF lN ?z3 ?z4 (fun _ => rfl) ?zp ?zt ?zd
    case z1 => exact small_one (by omega) (by omega) (by omega) (by omega)
    case z2 => exact rangeSize_nat _ _
    case z3 =>
      refine fr_agreeX [PySem.Str.ofString "at", PySem.Str.ofString "whole", PySem.Str.ofString "behind", PySem.Str.ofString "must", PySem.Str.ofString "least", PySem.Str.ofString "more", PySem.Str.ofString "maybe", PySem.Str.ofString "source"] ?_ ?_
      · tb_start
      · tb_rel
    case z4 =>
      intro p hp
      rcases List.mem_cons.mp hp with rfl | hp
      · exact .head _
      · exact .tail _ (.tail _ (.tail _ (.tail _ hp)))
    case zp => exact ⟨hWf, rfl, by assumption, by assumption, by assumption⟩
    case zt =>
      intro i
      refine fa8 ?_
      intro W tW oat a2 b2 ta2 tb2 n2 h tk t own hi hPP hoff F1 N1
      dsimp only at F1 N1 hPP ⊢
      have hP1 := hPP.1
      have hP2 := hPP.2.1
      have hP3 := hPP.2.2.1
      have hP4 := hPP.2.2.2.1
      have hP5 := hPP.2.2.2.2
      clear hPP
      clear lF lN
      rw [List.cons_append] at N1
      have hro : ∀ p ∈ rest ++ own, p.1 ≠ src := fun p hp => by
        rcases List.mem_append.mp hp with hp | hp
        · exact hr p hp
        · exact hoff.ne (.head _) p hp
      have hil : i < 3 := by omega
      have hWl := sg_len W
      ktr_unf
      (rename Fr _ _ _ _ => lF); (rename News _ _ _ _ => lN); (rename _ < (W.length : Int) + 1 => hat)
      refine' REnd.intro (_, _, _, _, _, _, _, _) lF lN (fr_agreeX [PySem.Str.ofString "at", PySem.Str.ofString "whole", PySem.Str.ofString "behind", PySem.Str.ofString "must", PySem.Str.ofString "least", PySem.Str.ofString "more", PySem.Str.ofString "maybe", PySem.Str.ofString "source"] ?z1 ?z2) ?zn ?zp
      case z1 => tb_start
      case z2 => tb_rel
      case zn =>
        intro p hp
        rw [List.cons_append] at hp
        exact hp
      case zp =>
        refine ⟨?_, ?_, by assumption, by assumption, by assumption⟩
        · dsimp only
          rw [sg_append, sg_append, sg_to (by assumption) (by omega), comma, sg_tx, sg_from (by assumption) (by omega), cut_filter]
          exact hP1
        · dsimp only
          rw [← sg_len, sg_append, sg_append, sg_to (by assumption) (by omega), comma, sg_tx, sg_from (by assumption) (by omega), List.length_append, List.length_append, List.length_take, List.length_drop, List.length_cons, List.length_nil, sg_len]
          exact ins_len (by assumption) hat hP2
    case zd =>
      intro u
      refine fa8 ?_
      intro W tW oat a2 b2 ta2 tb2 n2 h tk hPP F1 N1
      dsimp only at F1 N1 hPP ⊢
      have hP1 := hPP.1
      have hP2 := hPP.2.1
      have hP3 := hPP.2.2.1
      have hP4 := hPP.2.2.2.1
      have hP5 := hPP.2.2.2.2
      clear hPP
      clear lF lN
      have hWl := sg_len W
      have hW20 : W.length ≤ 20 := w20 hP2 hW0l (by assumption) (by assumption)
      ktr_unf
      (rename Fr _ _ _ _ => lF); (rename News _ _ _ _ => lN)
      refine' cut_own (σ := Int × PySem.Tok) (fun c y => if y = PySem.Str.ofString "turn" then u else if y = PySem.Str.ofString "at" then oat else List.lookup y [(PySem.Str.ofString "whole", .str W tW), (PySem.Str.ofString "behind", .int c.1 c.2), (PySem.Str.ofString "must", .int mu t3), (PySem.Str.ofString "least", .int le t4), (PySem.Str.ofString "more", .int mo t5), (PySem.Str.ofString "maybe", .int my t6), (PySem.Str.ofString "source", .ref src)]) (fun _ => (src, listOf #[.int a2 ta2, .int b2 tb2] n2) :: rest) (fun c => c.1 = tailLen (sg W)) lF lN ?cu1 ?cu2
      case cu1 =>
        ktr_unf
        all_goals try
          (rename (PySem.Builtin.Str.occurrences _ _ _ _ _).isEmpty = true => hcm); (rename Fr _ _ _ _ => lF); (rename News _ _ _ _ => lN)
          exact CPost.intro (0, t2) lF lN (fr_agree [PySem.Str.ofString "behind", PySem.Str.ofString "turn", PySem.Str.ofString "at", PySem.Str.ofString "whole", PySem.Str.ofString "must", PySem.Str.ofString "least", PySem.Str.ofString "more", PySem.Str.ofString "maybe", PySem.Str.ofString "source"] (by tb_start) (by tb_rel)) (fun _ h => h) (tail_none (comma_out hcm))
        (rename (PySem.Builtin.Str.occurrences _ _ _ _ _).isEmpty = false => hcm); (rename Fr _ _ _ _ => lF); (rename News _ _ _ _ => lN)
        have hm := comma_in hcm
        refine' while_ownD (σ := Int × PySem.Tok) (fun c y => if y = PySem.Str.ofString "turn" then u else if y = PySem.Str.ofString "at" then oat else List.lookup y [(PySem.Str.ofString "whole", .str W tW), (PySem.Str.ofString "behind", .int c.1 c.2), (PySem.Str.ofString "must", .int mu t3), (PySem.Str.ofString "least", .int le t4), (PySem.Str.ofString "more", .int mo t5), (PySem.Str.ofString "maybe", .int my t6), (PySem.Str.ofString "source", .ref src)]) (fun _ => (src, listOf #[.int a2 ta2, .int b2 tb2] n2) :: rest)
          (fun c => 0 ≤ c.1 ∧ c.1 < W.length ∧ ∀ k : Nat, (W.length : Int) - 1 - c.1 < k → (sg W)[k]? ≠ some 44) (fun c => W.length - c.1.toNat) (fun c => c.1 = tailLen (sg W)) (0, t2) lF lN (fun _ => rfl) ?z3 ?zp ?zt ?zd ?zE
        case z3 => exact fun _ h => h
        case zp =>
          have hP : ∀ k : Nat, (W.length : Int) - 1 - 0 < k → (sg W)[k]? ≠ some 44 := fun k hk hx => by
            rw [List.getElem?_eq_none (by omega)] at hx; cases hx
          exact ⟨Int.le_refl _, behind_lt (Int.le_refl _) (by omega) hm hP, hP⟩
        case zE => passes_own
        case zt =>
          refine fa2 ?_
          intro bh tbh h tk hPP F1 N1
          dsimp only at F1 N1 hPP ⊢
          have hQ1 := hPP.1
          have hQ2 := hPP.2.1
          have hQ3 := hPP.2.2
          clear hPP
          clear lF lN
          have hi0 : 0 ≤ (W.length : Int) - 1 - bh := by omega
          have hi1 : (W.length : Int) - 1 - bh < W.length := by omega
          have hi2 : (W.length : Int) - 1 - bh ≤ 20 := Int.le_trans (Int.le_of_lt hi1) (Int.ofNat_le.mpr hW20)
          ktr_unf
          · (rename Fr _ _ _ _ => lF); (rename News _ _ _ _ => lN); (rename (_ != _) = true => hne)
            rw [bne, item_ne_comma hi0 hi1, Bool.not_eq_true', decide_eq_false_iff_not] at hne
            have hP : ∀ k : Nat, (W.length : Int) - 1 - (bh + 1) < k → (sg W)[k]? ≠ some 44 := fun k hk => by
              by_cases hk2 : (W.length : Int) - 1 - bh < k
              · exact hQ3 k hk2
              · have : k = ((W.length : Int) - 1 - bh).toNat := by omega
                subst this
                exact hne
            refine' WEnd.intro (bh + 1, _) lF lN (fr_agree [PySem.Str.ofString "behind", PySem.Str.ofString "turn", PySem.Str.ofString "at", PySem.Str.ofString "whole", PySem.Str.ofString "must", PySem.Str.ofString "least", PySem.Str.ofString "more", PySem.Str.ofString "maybe", PySem.Str.ofString "source"] ?z1 ?z2) ?z3 ?zp ?zm
            case z1 => tb_start
            case z2 => tb_rel
            case z3 => exact fun _ h => h
            case zp => exact ⟨by dsimp only; omega, behind_lt (by dsimp only; omega) (by dsimp only; omega) hm hP, hP⟩
            case zm => exact dec_lt hQ1 hQ2
          · (rename Fr _ _ _ _ => lF); (rename News _ _ _ _ => lN); (rename (_ != _) = false => hne)
            rw [bne, item_ne_comma hi0 hi1, Bool.not_eq_false', decide_eq_true_eq] at hne
            refine WDone.intro lF lN ?_
            dsimp only
            rw [tailLen_at hne (fun k hk => hQ3 k (by omega)), hWl]
            omega
        case zd =>
          refine fa2 ?_
          intro bh tbh h tk hbeh F1 N1
          dsimp only at F1 N1 hbeh ⊢
          clear lF lN
          ktr_unf
          (rename Fr _ _ _ _ => lF); (rename News _ _ _ _ => lN)
          exact CPost.intro (bh, tbh) lF lN (fr_agree [PySem.Str.ofString "behind", PySem.Str.ofString "turn", PySem.Str.ofString "at", PySem.Str.ofString "whole", PySem.Str.ofString "must", PySem.Str.ofString "least", PySem.Str.ofString "more", PySem.Str.ofString "maybe", PySem.Str.ofString "source"] (by tb_start) (by tb_rel)) (fun _ h => h) hbeh
      case cu2 =>
        refine fa2 ?_
        intro bh tbh h tk hbeh F1 N1
        dsimp only at F1 N1 hbeh ⊢
        clear lF lN
        ktr_unf
        (rename Fr _ _ _ _ => lF); (rename News _ _ _ _ => lN)
        refine' cut_own (σ := PySem.Str × PySem.Tok × Int × Int × PySem.Tok × PySem.Tok × Nat) (fun c y => if y = PySem.Str.ofString "point" then some (.str c.1 c.2.1) else if y = PySem.Str.ofString "turn" then u else if y = PySem.Str.ofString "at" then oat else List.lookup y [(PySem.Str.ofString "whole", .str W tW), (PySem.Str.ofString "behind", .int bh tbh), (PySem.Str.ofString "must", .int mu t3), (PySem.Str.ofString "least", .int le t4), (PySem.Str.ofString "more", .int mo t5), (PySem.Str.ofString "maybe", .int my t6), (PySem.Str.ofString "source", .ref src)]) (fun c => (src, listOf #[.int c.2.2.1 c.2.2.2.2.1, .int c.2.2.2.1 c.2.2.2.2.2.1] c.2.2.2.2.2.2) :: rest)
          (fun c => (sg c.1 = [46] ∨ (sg c.1 = [] ∧ le = 0 ∧ mo = 0)) ∧ c.1.length ≤ 1 ∧ 0 ≤ c.2.2.1 ∧ 0 ≤ c.2.2.2.1 ∧ c.2.2.2.1 < 2147483647) lF lN ?cv1 ?cv2
        case cv1 =>
          ktr_unf
          all_goals (rename Fr _ _ _ _ => lF); (rename News _ _ _ _ => lN)
          all_goals first
            | exact CPost.intro (PySem.Str.ofString ".", _, _, _, _, _, _) lF lN (fr_agree [PySem.Str.ofString "point", PySem.Str.ofString "behind", PySem.Str.ofString "turn", PySem.Str.ofString "at", PySem.Str.ofString "whole", PySem.Str.ofString "must", PySem.Str.ofString "least", PySem.Str.ofString "more", PySem.Str.ofString "maybe", PySem.Str.ofString "source"] (by tb_start) (by tb_rel)) (fun _ h => h) ⟨.inl (by dsimp only; rw [lit_point, sg_tx]), by dsimp only; decide +kernel, by assumption, by assumption, by assumption⟩
            | exact CPost.intro (PySem.Str.ofString "", _, _, _, _, _, _) lF lN (fr_agree [PySem.Str.ofString "point", PySem.Str.ofString "behind", PySem.Str.ofString "turn", PySem.Str.ofString "at", PySem.Str.ofString "whole", PySem.Str.ofString "must", PySem.Str.ofString "least", PySem.Str.ofString "more", PySem.Str.ofString "maybe", PySem.Str.ofString "source"] (by tb_start) (by tb_rel)) (fun _ h => h) ⟨.inr ⟨by dsimp only; rw [empty_tx, sg_tx], by omega, by omega⟩, by dsimp only; decide +kernel, by assumption, by assumption, by assumption⟩
        case cv2 =>
          refine fa7 ?_
          intro pt tpt a3 b3 ta3 tb3 n3 h tk hPP F1 N1
          dsimp only at F1 N1 hPP ⊢
          have hpt := hPP.1
          have hpl := hPP.2.1
          have hp1 := hPP.2.2.1
          have hp2 := hPP.2.2.2.1
          have hp3 := hPP.2.2.2.2
          clear hPP
          clear lF lN
          obtain ⟨hr1, hr2, hr3⟩ := row_room hW20 hpl hle hmo
          k_with "binaryOp Mult str int" => (refine SB.mul (mulOk_of 16 1048576 (by first | decide | omega) (by omega) (by omega) (by decide) (by decide)) ?_; intro _ _)
          ktr_unf
          rename Fr h₀ _ _ _ => zF
          rename News h₀ _ _ _ => zN
          with_reducible rename _ ∧ AllLt _ rest => l1
          exact hret _ _ _ _ (row_post (row_end hP1 hW20 hbeh hpt (by rw [sg_append, sg_append, sg_append, sg_mul, sg_mulH]) hmy hmu hle hmo hsum) hp1 hp2 hp3 (Nat.ne_of_lt l1.1) (allLt_mem l1.2)) zF zN
end Mine
namespace Mine
def SignOk (l : List Nat) : Prop := l ∈ ([[], [97, 32], [40], [37], [8240], [45]] : List (List Nat))
theorem signOk_not {l : List Nat} (h : SignOk l) : ∀ c ∈ l, isS c = false := by
  intro c hc
  simp only [SignOk, List.mem_cons, List.not_mem_nil, or_false] at h
  rcases h with rfl | rfl | rfl | rfl | rfl | rfl <;> simp at hc
  · rcases hc with rfl | rfl <;> decide
  all_goals subst hc; decide
theorem signOk_len {l : List Nat} (h : SignOk l) : l.length ≤ 2 := by
  simp only [SignOk, List.mem_cons, List.not_mem_nil, or_false] at h
  rcases h with rfl | rfl | rfl | rfl | rfl | rfl <;> decide
theorem tw_all {p : Nat → Bool} {l : List Nat} (h : ∀ c ∈ l, p c = true) : l.takeWhile p = l := by
  induction l with
  | nil => rfl
  | cons a r ih => rw [List.takeWhile_cons, if_pos (h a (.head _)), ih fun c hc => h c (.tail _ hc)]
theorem dw_all {p : Nat → Bool} {l : List Nat} (h : ∀ c ∈ l, p c = true) : l.dropWhile p = [] := by
  induction l with
  | nil => rfl
  | cons a r ih => rw [List.dropWhile_cons, if_pos (h a (.head _)), ih fun c hc => h c (.tail _ hc)]
theorem tw_app {p : Nat → Bool} {l r : List Nat} (h : ∀ c ∈ l, p c = true) : (l ++ r).takeWhile p = l ++ r.takeWhile p := by
  induction l with
  | nil => rfl
  | cons a s ih => rw [List.cons_append, List.takeWhile_cons, if_pos (h a (.head _)), ih fun c hc => h c (.tail _ hc)]; rfl
theorem dw_app {p : Nat → Bool} {l r : List Nat} (h : ∀ c ∈ l, p c = true) : (l ++ r).dropWhile p = r.dropWhile p := by
  induction l with
  | nil => rfl
  | cons a s ih => rw [List.cons_append, List.dropWhile_cons, if_pos (h a (.head _)), ih fun c hc => h c (.tail _ hc)]
theorem tw_none {p : Nat → Bool} {l : List Nat} (h : ∀ c ∈ l, p c = false) : l.takeWhile p = [] := by
  cases l with
  | nil => rfl
  | cons a r => rw [List.takeWhile_cons, if_neg (by rw [h a (.head _)]; decide)]
theorem dw_none {p : Nat → Bool} {l : List Nat} (h : ∀ c ∈ l, p c = false) : l.dropWhile p = l := by
  cases l with
  | nil => rfl
  | cons a r => rw [List.dropWhile_cons, if_neg (by rw [h a (.head _)]; decide)]
theorem tw_hd {p : Nat → Bool} {l r : List Nat} (hl : l ≠ []) (h : ∀ c ∈ l, p c = false) : (l ++ r).takeWhile p = [] := by
  cases l with
  | nil => exact absurd rfl hl
  | cons a s => rw [List.cons_append, List.takeWhile_cons, if_neg (by rw [h a (.head _)]; decide)]
theorem dw_hd {p : Nat → Bool} {l r : List Nat} (hl : l ≠ []) (h : ∀ c ∈ l, p c = false) : (l ++ r).dropWhile p = l ++ r := by
  cases l with
  | nil => exact absurd rfl hl
  | cons a s => rw [List.cons_append, List.dropWhile_cons, if_neg (by rw [h a (.head _)]; decide)]
theorem split_three {A l Z : List Nat} (hA : ∀ c ∈ A, isS c = false) (hl : ∀ c ∈ l, isS c = true) (hn : l ≠ []) (hZ : ∀ c ∈ Z, isS c = false) :
    bOf (A ++ l ++ Z) = A ∧ mOf (A ++ l ++ Z) = l ∧ cOf (A ++ l ++ Z) = Z := by
  have hA' : ∀ c ∈ A, (!isS c) = true := fun c hc => by rw [hA c hc]; rfl
  have hl' : ∀ c ∈ l, (!isS c) = false := fun c hc => by rw [hl c hc]; rfl
  have hr : rOf (A ++ l ++ Z) = l ++ Z := by rw [rOf, List.append_assoc, dw_app hA', dw_hd hn hl']
  refine ⟨?_, ?_, ?_⟩
  · rw [bOf, List.append_assoc, tw_app hA', tw_hd hn hl', List.append_nil]
  · rw [mOf, hr, tw_app hl, tw_none hZ, List.append_nil]
  · rw [cOf, hr, dw_app hl, dw_none hZ]
theorem twoIn_rep1 {a b : Nat} (hab : a ≠ b) : ∀ n, twoIn a b (List.replicate n a) = false
  | 0 => rfl
  | 1 => rfl
  | n + 2 => by
    show ((a == a && a == b) || twoIn a b (List.replicate (n + 1) a)) = false
    rw [twoIn_rep1 hab (n + 1)]; simp [hab]
/-- b..b a..a holds no a b -/
theorem twoIn_reps {a b : Nat} (hab : a ≠ b) : ∀ m n, twoIn a b (List.replicate m b ++ List.replicate n a) = false
  | 0, n => by simpa using twoIn_rep1 hab n
  | 1, 0 => rfl
  | 1, n + 1 => by
    show ((b == a && a == b) || twoIn a b (List.replicate (n + 1) a)) = false
    rw [twoIn_rep1 hab]; simp [Ne.symm hab]
  | m + 2, n => by
    have ih := twoIn_reps hab (m + 1) n
    show ((b == a && b == b) || twoIn a b (List.replicate (m + 1) b ++ List.replicate n a)) = false
    rw [ih]; simp [Ne.symm hab]
theorem wh_signs {wh : List Nat} {m n : Nat} (h : wh.filter (· != 44) = List.replicate m 35 ++ List.replicate n 48) : ∀ c ∈ wh, c = 44 ∨ c = 35 ∨ c = 48 := fun c hc => by
  by_cases h4 : c = 44
  · exact .inl h4
  · have : c ∈ wh.filter (· != 44) := List.mem_filter.mpr ⟨hc, by simpa using h4⟩
    rw [h, List.mem_append] at this
    rcases this with q | q
    · exact .inr (.inl (List.eq_of_mem_replicate q))
    · exact .inr (.inr (List.eq_of_mem_replicate q))
/-- what a row asks -/
theorem all_zero {mb more : Nat} {mu le : Int} (h8 : 0 ≤ mu) (h10 : 0 ≤ le) (e1 : mb + mu.toNat = 0) (e2 : le.toNat = 0) (e3 : more = 0) : (mb : Int) + mu + le + more = 0 := by
  obtain ⟨m, rfl⟩ := Int.eq_ofNat_of_zero_le h8
  obtain ⟨l, rfl⟩ := Int.eq_ofNat_of_zero_le h10
  obtain ⟨rfl, z⟩ := Nat.add_eq_zero_iff.mp e1
  have z1 : m = 0 := z
  have z2 : l = 0 := e2
  subst z1 z2 e3; rfl
theorem row_reads {l : List Nat} {mu sz le mo : Int} (h : RowOk l mu sz le mo) :
    (∀ c ∈ l, isS c = true) ∧ l ≠ [] ∧ l.length ≤ 40 ∧ picBad ((whOf l).filter (· != 44)) (rtOf l) = false ∧ ((((whOf l).filter (· != 44)).count 48 : Nat) : Int) = mu ∧ (tailLen (whOf l) : Int) = sz ∧ (((rtOf l).count 48 : Nat) : Int) = le ∧ ((rtOf l).length : Int) = mo := by
  obtain ⟨mb, more, wh, pt, h1, h2, h3, h4, h5, h6, h7, h8, h9, h10, h11, h12, h13⟩ := h
  have hs := wh_signs h1
  have hmb : mb + mu.toNat ≤ 20 := by
    have e := congrArg List.length h1
    rw [List.length_append, List.length_replicate, List.length_replicate] at e
    have := List.length_filter_le (· != 44) wh
    omega
  have hwp : ∀ c ∈ wh, (c != 46) = true := fun c hc => by rcases hs c hc with rfl | rfl | rfl <;> rfl
  have hall : ∀ c ∈ l, isS c = true := by
    intro c hc
    rw [h5] at hc
    simp only [List.mem_append, List.mem_replicate] at hc
    rcases hc with ((hc | hc) | hc) | hc
    · rcases hs c hc with rfl | rfl | rfl <;> rfl
    · rcases h4 with h4 | h4
      · rw [h4] at hc; simp at hc; subst hc; rfl
      · rw [h4.1] at hc; cases hc
    · rw [hc.2]; rfl
    · rw [hc.2]; rfl
  have key : whOf l = wh ∧ rtOf l = List.replicate le.toNat 48 ++ List.replicate more 35 := by
    rcases h4 with h4 | ⟨h4, hle, hmo⟩
    · have el : l = wh ++ (46 :: (List.replicate le.toNat 48 ++ List.replicate more 35)) := by rw [h5, h4]; simp
      refine ⟨?_, ?_⟩
      · rw [whOf, el, tw_app hwp, List.takeWhile_cons, if_neg (by decide), List.append_nil]
      · rw [rtOf, el, dw_app hwp, List.dropWhile_cons, if_neg (by decide)]; rfl
    · subst hle hmo
      have el : l = wh := by rw [h5, h4]; simp
      refine ⟨?_, ?_⟩
      · rw [whOf, el, tw_all hwp]
      · rw [rtOf, el, dw_all hwp]; rfl
  obtain ⟨k1, k2⟩ := key
  have hlen : l.length = wh.length + pt.length + le.toNat + more := by rw [h5]; simp [Nat.add_assoc]
  have hpt : pt.length ≤ 1 := by rcases h4 with h4 | h4; rw [h4]; exact Nat.le_refl _; rw [h4.1]; exact Nat.zero_le _
  refine ⟨hall, ?_, by omega, ?_, ?_, ?_, ?_, ?_⟩
  · rintro rfl
    have hz : wh.length + pt.length + le.toNat + more = 0 := hlen.symm
    obtain ⟨hz1, hm0⟩ := Nat.add_eq_zero_iff.mp hz
    obtain ⟨hz2, hl0⟩ := Nat.add_eq_zero_iff.mp hz1
    have hw : wh = [] := List.length_eq_zero_iff.mp (Nat.add_eq_zero_iff.mp hz2).1
    rw [hw] at h1
    have e := congrArg List.length h1
    rw [List.length_append, List.length_replicate, List.length_replicate] at e
    exact h7 (all_zero h8 h10 e.symm hl0 hm0)
  · rw [k1, k2, h1, picBad, twoIn_reps (by decide), twoIn_reps (by decide)]
    simp only [Bool.false_or, Bool.or_eq_false_iff, decide_eq_false_iff_not]
    refine ⟨⟨⟨?_, ?_⟩, ?_⟩, ?_⟩
    · simp [List.mem_replicate]
    · simp [List.mem_replicate]
    · intro e
      have e := congrArg List.length e
      simp at e
      obtain ⟨z1, z2, z3, z4⟩ := e
      exact h7 (by rw [z1, z4, Int.le_antisymm z2 h8, Int.le_antisymm z3 h10]; rfl)
    · simp only [List.length_append, List.length_replicate]; omega
  · rw [k1, h1, List.count_append, List.count_replicate, List.count_replicate]; simp; omega
  · rw [k1, h3]
  · rw [k2, List.count_append, List.count_replicate, List.count_replicate]; simp; omega
  · rw [k2, List.length_append, List.length_replicate, List.length_replicate, h6]; omega
theorem tail_le (l : List Nat) : tailLen l ≤ l.length := by
  rw [tailLen]; split
  · have : (l.reverse.takeWhile (· != 44)).length ≤ l.reverse.length := (List.takeWhile_prefix _).length_le
    rwa [List.length_reverse] at this
  · exact Nat.zero_le _
theorem row_pic {A Z l : List Nat} {mu sz le mo : Int} (hA : SignOk A) (hZ : SignOk Z) (h : RowOk l mu sz le mo) :
    bOf (A ++ l ++ Z) = A ∧ mOf (A ++ l ++ Z) = l ∧ cOf (A ++ l ++ Z) = Z ∧ rdBad (A ++ l ++ Z) = false ∧ (A ++ l ++ Z).length ≤ 100 := by
  obtain ⟨h1, h2, h3, h4, _⟩ := row_reads h
  obtain ⟨e1, e2, e3⟩ := split_three (signOk_not hA) h1 h2 (signOk_not hZ)
  refine ⟨e1, e2, e3, ?_, ?_⟩
  · rw [rdBad, e3, e2, h4, Bool.or_false, List.any_eq_false]
    intro c hc; rw [signOk_not hZ c hc]; decide
  · have := signOk_len hA; have := signOk_len hZ
    rw [List.length_append, List.length_append]; omega
end Mine
namespace Mine
def D (n : Nat) : List Nat := (Nat.toDigits 10 n).map Char.toNat
theorem digit_sign : ∀ d : Nat, d < 10 → (Nat.digitChar d).toNat = 48 + d := by decide
theorem D_small {n : Nat} (h : n < 10) : D n = [48 + n] := by
  rw [D, Nat.toDigits_of_lt_base h]
  show [(Nat.digitChar n).toNat] = _
  rw [digit_sign n h]
theorem D_snoc {n : Nat} (h : 10 ≤ n) : D n = D (n / 10) ++ [48 + n % 10] := by
  have hm : n % 10 < 10 := Nat.mod_lt _ (by decide)
  have t : Nat.toDigits 10 (n / 10) ++ Nat.toDigits 10 (n % 10) = Nat.toDigits 10 (10 * (n / 10) + n % 10) := Nat.toDigits_append_toDigits (by decide) (by omega) hm
  rw [Nat.div_add_mod] at t
  rw [D, ← t, List.map_append, Nat.toDigits_of_lt_base hm]
  show D (n / 10) ++ [(Nat.digitChar (n % 10)).toNat] = _
  rw [digit_sign _ hm]
theorem D_ne (n : Nat) : D n ≠ [] := by
  by_cases h : n < 10
  · rw [D_small h]; exact List.cons_ne_nil _ _
  · rw [D_snoc (by omega)]; simp
theorem padl_step (m n : Nat) : padl (m + 1) (D n) = padl m (D (n / 10)) ++ [48 + n % 10] := by
  by_cases h : n < 10
  · have e0 : n / 10 = 0 := by omega
    rw [D_small h, e0, D_small (by decide : 0 < 10), padl, padl, Nat.mod_eq_of_lt h]
    show List.replicate (m + 1) 48 ++ [48 + n] = (List.replicate m 48 ++ [48]) ++ [48 + n]
    rw [List.replicate_succ']
  · have e : m + 1 + 1 - ((D (n / 10)).length + 1) = m + 1 - (D (n / 10)).length := Nat.add_sub_add_right _ 1 _
    rw [D_snoc (by omega), padl, padl, List.length_append, List.length_singleton, e, List.append_assoc]
theorem padl_split : ∀ m n : Nat, padl m (D n) = D (n / 10 ^ m) ++ (D (n % 10 ^ m + 10 ^ m)).drop 1 ∧ ((D (n % 10 ^ m + 10 ^ m)).drop 1).length = m
  | 0, n => by
    have hp : 0 < (D n).length := List.length_pos_iff.mpr (D_ne n)
    have e : 0 + 1 - (D n).length = 0 := by omega
    rw [padl, e, Nat.pow_zero, Nat.div_one, Nat.mod_one]
    exact ⟨by simp [D_small (by decide : 0 + 1 < 10)], by simp [D_small (by decide : 0 + 1 < 10)]⟩
  | m + 1, n => by
    obtain ⟨ih1, ih2⟩ := padl_split m (n / 10)
    have hpos : 0 < 10 ^ m := Nat.pow_pos (by decide)
    have e1 : n / 10 ^ (m + 1) = n / 10 / 10 ^ m := by rw [Nat.pow_succ, Nat.mul_comm, Nat.div_div_eq_div_mul]
    have e2 : n % 10 ^ (m + 1) = 10 * (n / 10 % 10 ^ m) + n % 10 := by rw [Nat.pow_succ, Nat.mul_comm, Nat.mod_mul]; omega
    have e3 : (n % 10 ^ (m + 1) + 10 ^ (m + 1)) / 10 = n / 10 % 10 ^ m + 10 ^ m := by rw [e2, Nat.pow_succ, Nat.add_mul_div_right _ _ (by decide), Nat.mul_add_div (by decide), Nat.div_eq_of_lt (Nat.mod_lt _ (by decide)), Nat.add_zero]
    have e4 : (n % 10 ^ (m + 1) + 10 ^ (m + 1)) % 10 = n % 10 := by rw [e2, Nat.pow_succ, Nat.add_mul_mod_self_right, Nat.mul_add_mod, Nat.mod_mod]
    have e5 : D (n % 10 ^ (m + 1) + 10 ^ (m + 1)) = D (n / 10 % 10 ^ m + 10 ^ m) ++ [48 + n % 10] := by
      rw [D_snoc (by rw [Nat.pow_succ]; omega), e3, e4]
    have hne := D_ne (n / 10 % 10 ^ m + 10 ^ m)
    have e6 : (D (n / 10 % 10 ^ m + 10 ^ m) ++ [48 + n % 10]).drop 1 = (D (n / 10 % 10 ^ m + 10 ^ m)).drop 1 ++ [48 + n % 10] := by
      rw [List.drop_append_of_le_length (List.length_pos_iff.mpr hne)]
    rw [padl_step, e5, e6, ih1, e1]
    exact ⟨by rw [List.append_assoc], by rw [List.length_append, ih2]; rfl⟩
theorem dg_D (n : Nat) : dg (n : Int) = D n := rfl
/-- both ways to write a number's figures agree -/
theorem fin_same {N : Int} (h : 0 ≤ N) (m must size least : Nat) :
    fin must size least (dg (N.fdiv (10 ^ m))) ((dg (N.fmod (10 ^ m) + 10 ^ m)).drop 1) =
    fin must size least ((padl m (dg N)).take ((padl m (dg N)).length - m)) ((padl m (dg N)).drop ((padl m (dg N)).length - m)) := by
  obtain ⟨n, rfl⟩ := Int.eq_ofNat_of_zero_le h
  have hp : (0 : Int) ≤ 10 ^ m := Int.pow_nonneg (by decide)
  have e0 : ((10 ^ m : Nat) : Int) = (10 : Int) ^ m := by simp
  have e1 : (n : Int).fdiv (10 ^ m) = ((n / 10 ^ m : Nat) : Int) := by rw [Int.fdiv_eq_ediv_of_nonneg _ hp, ← e0]; rfl
  have e2 : (n : Int).fmod (10 ^ m) + 10 ^ m = ((n % 10 ^ m + 10 ^ m : Nat) : Int) := by rw [Int.fmod_eq_emod_of_nonneg _ hp, ← e0]; rfl
  rw [e1, e2, dg_D, dg_D, dg_D]
  obtain ⟨s1, s2⟩ := padl_split m n
  have hl : (padl m (D n)).length - m = (D (n / 10 ^ m)).length := by rw [s1, List.length_append, s2]; omega
  rw [hl, s1, List.take_left, List.drop_left]
theorem near_a {P r b a : Int} (hd : a = P + r) (h0 : 0 ≤ r) (hc : 2 * r < b) : 2 * (a - P) ≤ b ∧ 2 * (P - a) ≤ b ∧ ¬ (2 * (a - P) = b ∨ 2 * (P - a) = b) := by
  have e1 : a - P = r := by rw [hd, Int.add_comm, Int.add_sub_cancel]
  have e2 : P - a = -r := by rw [← e1, Int.neg_sub]
  rw [e1, e2]; omega
theorem near_b {P r b a : Int} (hd : a = P + r) (h1 : r < b) (hc : b < 2 * r) : 2 * (a - (P + b)) ≤ b ∧ 2 * (P + b - a) ≤ b ∧ ¬ (2 * (a - (P + b)) = b ∨ 2 * (P + b - a) = b) := by
  have e1 : a - (P + b) = r - b := by rw [hd, Int.add_sub_add_left]
  have e2 : P + b - a = b - r := by rw [hd, Int.add_sub_add_left]
  rw [e1, e2]; omega
theorem near_c {P r b a : Int} (hd : a = P + r) (h0 : 0 ≤ r) (hc : 2 * r = b) : 2 * (a - P) ≤ b ∧ 2 * (P - a) ≤ b := by
  have e1 : a - P = r := by rw [hd, Int.add_comm, Int.add_sub_cancel]
  have e2 : P - a = -r := by rw [← e1, Int.neg_sub]
  rw [e1, e2]; omega
theorem near_d {P r b a : Int} (hd : a = P + r) (h0 : 0 ≤ r) (hc : 2 * r = b) : 2 * (a - (P + b)) ≤ b ∧ 2 * (P + b - a) ≤ b := by
  have e1 : a - (P + b) = r - b := by rw [hd, Int.add_sub_add_left]
  have e2 : P + b - a = b - r := by rw [hd, Int.add_sub_add_left]
  rw [e1, e2]; omega
theorem odd_next {q : Int} (h : q % 2 = 1) : (q + 1).fmod 2 ≠ 1 ∧ (1 + q) % 2 ≠ 1 := by
  rw [Int.fmod_eq_emod_of_nonneg _ (by decide)]; omega
theorem even_next {q : Int} (h : ¬ q % 2 = 1) : q.fmod 2 ≠ 1 ∧ (1 + q) % 2 = 1 := by
  rw [Int.fmod_eq_emod_of_nonneg _ (by decide)]; omega
theorem near_same {a b : Int} (ha : 0 ≤ a) (hb : 0 < b) : hev a b = nrs a b ∧ 2 * (a - hev a b * b) ≤ b ∧ 2 * (hev a b * b - a) ≤ b ∧ (2 * (a - hev a b * b) = b ∨ 2 * (hev a b * b - a) = b → (hev a b).fmod 2 ≠ 1) := by
  obtain ⟨q, hq⟩ : ∃ q, q = a.fdiv b := ⟨_, rfl⟩
  obtain ⟨r, hr⟩ : ∃ r, r = a.fmod b := ⟨_, rfl⟩
  have h0 : 0 ≤ r := by rw [hr]; exact Int.fmod_nonneg_of_pos _ hb
  have h1 : r < b := by rw [hr]; exact Int.fmod_lt_of_pos _ hb
  obtain ⟨P, hP⟩ : ∃ P, P = q * b := ⟨_, rfl⟩
  have hdm : a = P + r := by
    have := Int.mul_fdiv_add_fmod a b
    rw [← hq, ← hr, Int.mul_comm, ← hP] at this
    exact this.symm
  have e2 : 2 * a + b = (2 * r + b) + q * (2 * b) := by
    rw [hdm, hP, ← Int.mul_assoc, Int.mul_comm q 2, Int.mul_assoc]; omega
  have hv : hev a b = if b < 2 * r ∨ (2 * r = b ∧ q % 2 = 1) then q + 1 else q := by
    simp only [hev, ← hq, ← hP]
    rw [Int.fmod_eq_emod_of_nonneg q (by decide), show a - P = r by omega]
  have hQ : (2 * a + b).fdiv (2 * b) = (2 * r + b) / (2 * b) + q := by
    rw [Int.fdiv_eq_ediv_of_nonneg _ (by omega), e2, Int.add_mul_ediv_right _ _ (by omega)]
  have hM : (2 * a + b).fmod (2 * b) = (2 * r + b) % (2 * b) := by
    rw [Int.fmod_eq_emod_of_nonneg _ (by omega), e2, Int.add_mul_emod_self_right]
  have e3 : (q + 1) * b = P + b := by rw [Int.add_mul, ← hP]; omega
  by_cases hc : 2 * r < b
  · have a1 : (2 * r + b) / (2 * b) = 0 := Int.ediv_eq_zero_of_lt (by omega) (by omega)
    have a2 : (2 * r + b) % (2 * b) = 2 * r + b := Int.emod_eq_of_lt (by omega) (by omega)
    obtain ⟨n1, n2, n3⟩ := near_a hdm h0 hc
    rw [hv, if_neg (fun z => z.elim (fun z => Int.lt_irrefl _ (Int.lt_trans hc z)) fun z => Int.ne_of_lt hc z.1), ← hP]
    refine ⟨?_, n1, n2, fun z => absurd z n3⟩
    simp only [nrs]
    rw [hQ, hM, a1, a2, if_neg (fun z => by have := z.1; omega), Int.zero_add]
  · have e4 : 2 * r + b = (2 * r - b) + 1 * (2 * b) := by omega
    have a1 : (2 * r + b) / (2 * b) = 1 := by rw [e4, Int.add_mul_ediv_right _ _ (by omega), Int.ediv_eq_zero_of_lt (by omega) (by omega)]; rfl
    have a2 : (2 * r + b) % (2 * b) = 2 * r - b := by rw [e4, Int.add_mul_emod_self_right]; exact Int.emod_eq_of_lt (by omega) (by omega)
    have hn : nrs a b = if 2 * r - b = 0 ∧ (1 + q) % 2 = 1 then 1 + q - 1 else 1 + q := by
      simp only [nrs]
      rw [hQ, hM, a1, a2, Int.fmod_eq_emod_of_nonneg (1 + q) (by decide)]
    rw [hn, hv]
    by_cases ht : 2 * r = b
    · have hz : 2 * r - b = 0 := Int.sub_eq_zero.mpr ht
      by_cases ho : q % 2 = 1
      · obtain ⟨n1, n2⟩ := near_d hdm h0 ht
        rw [if_pos (.inr ⟨ht, ho⟩), if_neg (fun z => (odd_next ho).2 z.2), e3]
        exact ⟨Int.add_comm _ _, n1, n2, fun _ => (odd_next ho).1⟩
      · obtain ⟨n1, n2⟩ := near_c hdm h0 ht
        rw [if_neg (fun z => z.elim (fun z => Int.ne_of_lt z ht.symm) fun z => ho z.2), if_pos ⟨hz, (even_next ho).2⟩, ← hP]
        exact ⟨by rw [Int.add_comm, Int.add_sub_cancel], n1, n2, fun _ => (even_next ho).1⟩
    · have hgt : b < 2 * r := Int.lt_iff_le_and_ne.mpr ⟨Int.not_lt.mp hc, fun z => ht z.symm⟩
      obtain ⟨n1, n2, n3⟩ := near_b hdm h1 hgt
      rw [if_pos (.inl hgt), if_neg (fun z => ht (Int.sub_eq_zero.mp z.1)), e3]
      exact ⟨Int.add_comm _ _, n1, n2, fun z => absurd z n3⟩
end Mine
namespace Mine
section
variable {w : World} {mean : ExcName → Option Value} {mg mb : PySem.Str → Option Value} {dp un : Nat} {gd : Option (List Code)} {cn : PySem.Str} {cs : Scope} {ad : PySem.Addr} {ccd : Value} {cl : List (PySem.Str × PySem.Addr)} {outer : List Env} {A₀ : Around} {base h₀ : Heap} {L : PySem.Addr} {m : PySem.Str → Option Value} {s : Shared} {Q E : Value → Shared → Prop}
theorem one_use {src th : PySem.Addr} {a b : Int} {ta tb : PySem.Tok} {n k : Nat} {vs : List Value} {news r : Obs}
    (B : Below A₀ base outer h₀) (F : Fr h₀ L s.heap m) (X : (kh w.params).In h₀) (N : News h₀ L s.heap news) (T : TopV mean mg mb h₀) (hk : cs.kind = .function)
    (pk : Pick src (listOf #[.int a ta, .int b tb] n) news r) (hth : (th, listOf vs.toArray k) ∈ news) (hne : th ≠ src)
    (hd : dp + 2 < recursionLimit) (hu : un + 8 * 2 < cLine) (ha : 0 ≤ a) (hb : 0 ≤ b) (hb' : b < 2147483647) (hv : 0 < vs.length) (hv' : vs.length ≤ 100)
    (ret : ∀ v (a' b' : Int) (ta' tb' : PySem.Tok) (n' : Nat) (h' : Heap) (tk' : Nat), v ∈ vs → 0 ≤ a' → 0 ≤ b' → b' < 2147483647 → Fr h₀ L h' m → News h₀ L h' ((src, listOf #[.int a' ta', .int b' tb'] n') :: r) → Q v { s with heap := h', toks := tk' }) :
    wpAny (model PySem.Challenge.rw_xm0635_01.row.prog w) (ktrTop dp un gd cn cs L ad ccd cl outer) (call (.ref 123) [.ref src, .ref th]) Q E s :=
  one_con w mean mg mb src th a b ta tb n k vs r ha hb hb' hv hv' hne pk.ne dp un gd cn cs ad ccd cl outer A₀ base h₀ L m s Q E B F X (News_sub N fun p hp => by
    rcases List.mem_cons.mp hp with rfl | hp
    · exact hth
    · exact pk.sub p hp) T hk hd hu
    (by
      rintro v news' h' tk' ⟨a', b', ta', tb', n', h1, h2, h3, h4, rfl⟩ F' N'
      exact ret v a' b' ta' tb' n' h' tk' h1 h2 h3 h4 F' (News_sub N' fun p hp => by
        rcases List.mem_cons.mp hp with rfl | hp
        · exact .head _
        · exact .tail _ (.tail _ hp)))
    (fun _ _ _ _ h => h.elim)
theorem sign_use {src th : PySem.Addr} {a b : Int} {ta tb t1 t2 t3 t4 t5 t6 : PySem.Tok} {n k : Nat} {news r : Obs}
    (B : Below A₀ base outer h₀) (F : Fr h₀ L s.heap m) (X : (kh w.params).In h₀) (N : News h₀ L s.heap news) (T : TopV mean mg mb h₀) (hk : cs.kind = .function)
    (pk : Pick src (listOf #[.int a ta, .int b tb] n) news r) (hth : (th, listOf #[.str (PySem.Str.ofString "") t1, .str (PySem.Str.ofString "a ") t2, .str (PySem.Str.ofString "(") t3, .str (PySem.Str.ofString "%") t4, .str (PySem.Str.ofString "‰") t5, .str (PySem.Str.ofString "-") t6] k) ∈ news) (hne : th ≠ src)
    (hd : dp + 2 < recursionLimit) (hu : un + 8 * 2 < cLine) (ha : 0 ≤ a) (hb : 0 ≤ b) (hb' : b < 2147483647)
    (ret : ∀ (x : PySem.Str) (tx : PySem.Tok) (a' b' : Int) (ta' tb' : PySem.Tok) (n' : Nat) (h' : Heap) (tk' : Nat), SignOk (sg x) → x.length ≤ 2 → PySem.PyData.canLay0 (.str x) = true → 0 ≤ a' → 0 ≤ b' → b' < 2147483647 → Fr h₀ L h' m → News h₀ L h' ((src, listOf #[.int a' ta', .int b' tb'] n') :: r) → Q (.str x tx) { s with heap := h', toks := tk' }) :
    wpAny (model PySem.Challenge.rw_xm0635_01.row.prog w) (ktrTop dp un gd cn cs L ad ccd cl outer) (call (.ref 123) [.ref src, .ref th]) Q E s :=
  one_use (vs := [.str (PySem.Str.ofString "") t1, .str (PySem.Str.ofString "a ") t2, .str (PySem.Str.ofString "(") t3, .str (PySem.Str.ofString "%") t4, .str (PySem.Str.ofString "‰") t5, .str (PySem.Str.ofString "-") t6]) B F X N T hk pk hth hne hd hu ha hb hb' (by simp) (by simp)
    (by
      intro v a' b' ta' tb' n' h' tk' hv h1 h2 h3 F' N'
      simp only [List.mem_cons, List.not_mem_nil, or_false] at hv
      rcases hv with rfl | rfl | rfl | rfl | rfl | rfl <;> exact ret _ _ a' b' ta' tb' n' h' tk' (by unfold SignOk; decide +kernel) (by decide +kernel) (by decide +kernel) h1 h2 h3 F' N')
theorem bot_use {src th : PySem.Addr} {a b : Int} {ta tb t1 t2 t3 t4 t5 t6 t7 t8 : PySem.Tok} {n k : Nat} {news r : Obs}
    (B : Below A₀ base outer h₀) (F : Fr h₀ L s.heap m) (X : (kh w.params).In h₀) (N : News h₀ L s.heap news) (T : TopV mean mg mb h₀) (hk : cs.kind = .function)
    (pk : Pick src (listOf #[.int a ta, .int b tb] n) news r) (hth : (th, listOf #[.int 1 t1, .int 2 t2, .int 4 t3, .int 8 t4, .int 3 t5, .int 7 t6, .int 1000 t7, .int 2000 t8] k) ∈ news) (hne : th ≠ src)
    (hd : dp + 2 < recursionLimit) (hu : un + 8 * 2 < cLine) (ha : 0 ≤ a) (hb : 0 ≤ b) (hb' : b < 2147483647)
    (ret : ∀ (c : Int) (tc : PySem.Tok) (a' b' : Int) (ta' tb' : PySem.Tok) (n' : Nat) (h' : Heap) (tk' : Nat), 0 < c → c ≤ 2000 → 0 ≤ a' → 0 ≤ b' → b' < 2147483647 → Fr h₀ L h' m → News h₀ L h' ((src, listOf #[.int a' ta', .int b' tb'] n') :: r) → Q (.int c tc) { s with heap := h', toks := tk' }) :
    wpAny (model PySem.Challenge.rw_xm0635_01.row.prog w) (ktrTop dp un gd cn cs L ad ccd cl outer) (call (.ref 123) [.ref src, .ref th]) Q E s :=
  one_use (vs := [.int 1 t1, .int 2 t2, .int 4 t3, .int 8 t4, .int 3 t5, .int 7 t6, .int 1000 t7, .int 2000 t8]) B F X N T hk pk hth hne hd hu ha hb hb' (by simp) (by simp)
    (by
      intro v a' b' ta' tb' n' h' tk' hv h1 h2 h3 F' N'
      simp only [List.mem_cons, List.not_mem_nil, or_false] at hv
      rcases hv with rfl | rfl | rfl | rfl | rfl | rfl | rfl | rfl <;> exact ret _ _ a' b' ta' tb' n' h' tk' (by decide) (by decide) h1 h2 h3 F' N')
theorem row_use {src : PySem.Addr} {a b : Int} {ta tb : PySem.Tok} {n : Nat} {news r : Obs}
    (B : Below A₀ base outer h₀) (F : Fr h₀ L s.heap m) (X : (kh w.params).In h₀) (N : News h₀ L s.heap news) (T : TopV mean mg mb h₀) (hk : cs.kind = .function)
    (pk : Pick src (listOf #[.int a ta, .int b tb] n) news r)
    (hd : dp + 5 < recursionLimit) (hu : un + 8 * 5 < cLine) (ha : 0 ≤ a) (hb : 0 ≤ b) (hb' : b < 2147483647)
    (ret : ∀ (Dd : PySem.Addr) (R : PySem.Str) (mu sz le mo : Int) (tR tmu tsz tle tmo : PySem.Tok) (a' b' : Int) (ta' tb' : PySem.Tok) (n' : Nat) (h' : Heap) (tk' : Nat), RowOk (sg R) mu sz le mo → R.length ≤ 40 → 0 ≤ mu → mu ≤ 4 → 0 ≤ sz → sz ≤ 40 → 0 ≤ le → le ≤ 3 → 0 ≤ mo → mo ≤ 4 → 0 ≤ a' → 0 ≤ b' → b' < 2147483647 → @Ne Nat src Dd → (∀ p ∈ r, p.1 ≠ Dd) → Fr h₀ L h' m →
      News h₀ L h' ((Dd, { cls := .type "tuple", data := .seq #[.str R tR, .int mu tmu, .int sz tsz, .int le tle, .int mo tmo] }) :: (src, listOf #[.int a' ta', .int b' tb'] n') :: r) → Q (.ref Dd) { s with heap := h', toks := tk' }) :
    wpAny (model PySem.Challenge.rw_xm0635_01.row.prog w) (ktrTop dp un gd cn cs L ad ccd cl outer) (call (.ref 130) [.ref src]) Q E s :=
  row_con w mean mg mb src a b ta tb n r ha hb hb' pk.ne dp un gd cn cs ad ccd cl outer A₀ base h₀ L m s Q E B F X (News_sub N pk.sub) T hk hd hu
    (by
      rintro v news' h' tk' ⟨Dd, R, tR, mu, tmu, sz, tsz, le, tle, mo, tmo, a', b', ta', tb', n', rfl, h1, h2, h3, h4, h5, h6, rfl⟩ F' N'
      obtain ⟨q1, q2, q3, q4, q5, q6, q7, q8⟩ := row_reads h1
      have e1 := tail_le (whOf (sg R))
      have e2 : (whOf (sg R)).length ≤ (sg R).length := (List.takeWhile_prefix _).length_le
      obtain ⟨mb9, more9, wh9, pt9, z1, z2, z3, z4, z5, z6, z7, z8, z9, z10, z11, z12, z13⟩ := h1
      exact ret Dd R mu sz le mo tR tmu tsz tle tmo a' b' ta' tb' n' h' tk' ⟨mb9, more9, wh9, pt9, z1, z2, z3, z4, z5, z6, z7, z8, z9, z10, z11, z12, z13⟩ (by rw [← sg_len]; exact q3) z8 z9 (by omega) (by omega) z10 z11 (by omega) z13 h2 h3 h4 h5 h6 F' N')
    (fun _ _ _ _ h => h.elim)
theorem rd_row {A R Z : PySem.Str} {mu sz le mo fv : Int} {tx : PySem.Tok} {news : Obs}
    (B : Below A₀ base outer h₀) (F : Fr h₀ L s.heap m) (X : (kh w.params).In h₀) (N : News h₀ L s.heap news) (T : TopV mean mg mb h₀) (hk : cs.kind = .function)
    (hd : dp + 30 < recursionLimit) (hu : un + 8 * 30 < cLine) (hA : SignOk (sg A)) (hZ : SignOk (sg Z)) (hR : RowOk (sg R) mu sz le mo) (hf : fv = facOf (sg A ++ sg Z))
    (ret : ∀ (p dx : PySem.Addr) (h1 h2 h3 h4 h5 h6 h7 : Int) (k1 k2 k3 k4 k5 k6 k7 ta tz t3 t4 t5 t6 t7 : PySem.Tok) (h' : Heap) (tk' : Nat), AllLt dx news → @LT.lt Nat _ dx p →
        Fr h₀ L h' m → News h₀ L h' ((p, instObj 63 dx) :: (dx, dictOf [⟨h1, .str (PySem.Str.ofString "before") k1, .str A ta⟩, ⟨h2, .str (PySem.Str.ofString "after") k2, .str Z tz⟩, ⟨h3, .str (PySem.Str.ofString "least_whole") k3, .int mu t3⟩,
    ⟨h4, .str (PySem.Str.ofString "group") k4, .int sz t4⟩, ⟨h5, .str (PySem.Str.ofString "least_rest") k5, .int le t5⟩, ⟨h6, .str (PySem.Str.ofString "most_rest") k6, .int mo t6⟩, ⟨h7, .str (PySem.Str.ofString "factor") k7, .int fv t7⟩] 7) :: news) → Q (.ref p) { s with heap := h', toks := tk' }) :
    wpAny (model PySem.Challenge.rw_xm0635_01.row.prog w) (ktrTop dp un gd cn cs L ad ccd cl outer) (call (.ref 81) [.str (A ++ R ++ Z) tx]) Q E s := by
  obtain ⟨e1, e2, e3, e4, e5⟩ := row_pic hA hZ hR
  obtain ⟨q1, q2, q3, q4, q5, q6, q7, q8⟩ := row_reads hR
  have e0 : sg (A ++ R ++ Z) = sg A ++ sg R ++ sg Z := by rw [sg_append, sg_append]
  refine rd_use B F X N T hk hd hu (by rw [← sg_len, e0]; omega) ?_ ?_
  · intro p dx es b z lw gr lr mr fa h' tk' he l1 l2 s1 s2 s3 s4 s5 s6 s7 s8 F' N'
    rw [e0, e1] at s1
    rw [e0, e3] at s2
    rw [e0, e2, q5] at s4
    rw [e0, e2, q6] at s5
    rw [e0, e2, q7] at s6
    rw [e0, e2, q8] at s7
    rw [e0, e1, e3, ← hf] at s8
    have eb := sg_inj s1
    have ez := sg_inj s2
    subst eb ez s4 s5 s6 s7 s8
    obtain ⟨h1, h2, h3, h4, h5, h6, h7, k1, k2, k3, k4, k5, k6, k7, ta, tz, t3, t4, t5, t6, t7⟩ := he
    exact ret p dx h1 h2 h3 h4 h5 h6 h7 k1 k2 k3 k4 k5 k6 k7 ta tz t3 t4 t5 t6 t7 h' tk' (allLt_of l1) l2 F' N'
  · intro e h' g' tk' hb
    rw [e0, e4] at hb
    cases hb
theorem dig_use {p dx : PySem.Addr} {A Z : PySem.Str} {mu sz le mo fv a b h1 h2 h3 h4 h5 h6 h7 : Int} {k1 k2 k3 k4 k5 k6 k7 tA tZ t3 t4 t5 t6 t7 ta tb : PySem.Tok} {news : Obs}
    (B : Below A₀ base outer h₀) (F : Fr h₀ L s.heap m) (X : (kh w.params).In h₀) (N : News h₀ L s.heap news) (T : TopV mean mg mb h₀) (hk : cs.kind = .function)
    (hp : (p, instObj 63 dx) ∈ news) (hx : (dx, dictOf [⟨h1, .str (PySem.Str.ofString "before") k1, .str A tA⟩, ⟨h2, .str (PySem.Str.ofString "after") k2, .str Z tZ⟩, ⟨h3, .str (PySem.Str.ofString "least_whole") k3, .int mu t3⟩,
    ⟨h4, .str (PySem.Str.ofString "group") k4, .int sz t4⟩, ⟨h5, .str (PySem.Str.ofString "least_rest") k5, .int le t5⟩, ⟨h6, .str (PySem.Str.ofString "most_rest") k6, .int mo t6⟩, ⟨h7, .str (PySem.Str.ofString "factor") k7, .int fv t7⟩] 7) ∈ news)
    (hd : dp + 5 < recursionLimit) (hu : un + 8 * 5 < cLine)
    (hlw : 0 ≤ mu) (hlw' : mu ≤ 10) (hgr : 0 ≤ sz) (hgr' : sz ≤ 100) (hlr : 0 ≤ le) (hlr' : le ≤ 10) (hmr : 0 ≤ mo) (hmr' : mo ≤ 4) (hfa : 0 ≤ fv) (hfa' : fv ≤ 1000) (ha : 0 ≤ a) (ha' : a ≤ 12000) (hb : 0 < b) (hb' : b ≤ 2000)
    (ret : ∀ (y : PySem.Str) (ty : PySem.Tok) (h' : Heap) (tk' : Nat), sg y = fin mu.toNat sz.toNat le.toNat ((padl mo.toNat (dg (nrs (a * fv * 10 ^ mo.toNat) b))).take ((padl mo.toNat (dg (nrs (a * fv * 10 ^ mo.toNat) b))).length - mo.toNat)) ((padl mo.toNat (dg (nrs (a * fv * 10 ^ mo.toNat) b))).drop ((padl mo.toNat (dg (nrs (a * fv * 10 ^ mo.toNat) b))).length - mo.toNat)) →
      Fr h₀ L h' m → News h₀ L h' news → Q (.str y ty) { s with heap := h', toks := tk' }) :
    wpAny (model PySem.Challenge.rw_xm0635_01.row.prog w) (ktrTop dp un gd cn cs L ad ccd cl outer) (call (.ref 102) [.ref p, .int a ta, .int b tb]) Q E s :=
  dig_con w mean mg mb p dx _ A Z mu sz le mo fv a b ta tb news ⟨h1, h2, h3, h4, h5, h6, h7, k1, k2, k3, k4, k5, k6, k7, tA, tZ, t3, t4, t5, t6, t7⟩ hlw hlw' hgr hgr' hlr hlr' hmr hmr' hfa hfa' ha ha' hb hb' dp un gd cn cs ad ccd cl outer A₀ base h₀ L m s Q E B F X (News_sub N fun q hq => by
    rcases List.mem_cons.mp hq with rfl | hq
    · exact hp
    · rcases List.mem_cons.mp hq with rfl | hq
      · exact hx
      · exact hq) T hk hd hu
    (by
      rintro v news' h' tk' ⟨y, ty, rfl, h1, rfl⟩ F' N'
      have hpw : (0 : Int) ≤ 10 ^ mo.toNat := Int.pow_nonneg (by decide)
      have hn := near_same (a := a * fv * 10 ^ mo.toNat) (b := b) (Int.mul_nonneg (Int.mul_nonneg ha hfa) hpw) hb
      rw [hn.1, fin_same] at h1
      · exact ret y ty h' tk' h1 F' (News_sub N' fun q hq => .tail _ (.tail _ hq))
      · have z := hn.2
        rw [← hn.1]
        have e1 : 0 ≤ (a * fv * 10 ^ mo.toNat).fdiv b := Int.fdiv_nonneg (Int.mul_nonneg (Int.mul_nonneg ha hfa) hpw) (by omega)
        simp only [hev]; split <;> omega)
    (fun _ _ _ _ h => h.elim)
theorem fig_use {lw gr lr mr a b : Int} {tlw tgr tlr tmr ta tb : PySem.Tok} {news : Obs}
    (B : Below A₀ base outer h₀) (F : Fr h₀ L s.heap m) (X : (kh w.params).In h₀) (N : News h₀ L s.heap news) (T : TopV mean mg mb h₀) (hk : cs.kind = .function)
    (hd : dp + 5 < recursionLimit) (hu : un + 8 * 5 < cLine)
    (hlw : 0 ≤ lw) (hlw' : lw ≤ 10) (hgr : 0 ≤ gr) (hgr' : gr ≤ 100) (hlr : 0 ≤ lr) (hlr' : lr ≤ 10) (hmr : 0 ≤ mr) (hmr' : mr ≤ 4) (ha : 0 ≤ a) (ha' : a ≤ 12000 * 1000) (hb : 0 < b) (hb' : b ≤ 2000)
    (ret : ∀ (y : PySem.Str) (ty : PySem.Tok) (h' : Heap) (tk' : Nat), sg y = fin lw.toNat gr.toNat lr.toNat ((padl mr.toNat (dg (nrs (a * 10 ^ mr.toNat) b))).take ((padl mr.toNat (dg (nrs (a * 10 ^ mr.toNat) b))).length - mr.toNat)) ((padl mr.toNat (dg (nrs (a * 10 ^ mr.toNat) b))).drop ((padl mr.toNat (dg (nrs (a * 10 ^ mr.toNat) b))).length - mr.toNat)) →
      Fr h₀ L h' m → News h₀ L h' news → Q (.str y ty) { s with heap := h', toks := tk' }) :
    wpAny (model PySem.Challenge.rw_xm0635_01.row.prog w) (ktrTop dp un gd cn cs L ad ccd cl outer) (call (.ref 151) [.int lw tlw, .int gr tgr, .int lr tlr, .int mr tmr, .int a ta, .int b tb]) Q E s :=
  fig_con w mean mg mb lw gr lr mr a b tlw tgr tlr tmr ta tb news hlw hlw' hgr hgr' hlr hlr' hmr hmr' ha ha' hb hb' dp un gd cn cs ad ccd cl outer A₀ base h₀ L m s Q E B F X N T hk hd hu
    (by
      rintro v news' h' tk' ⟨y, ty, rfl, h1, rfl⟩ F' N'
      exact ret y ty h' tk' h1 F' N')
    (fun _ _ _ _ h => h.elim)
end
theorem fac100 {x z : PySem.Str} (h : (PySem.Builtin.Str.occurrences (x ++ z) (PySem.Str.ofString "%") 0 (x ++ z).length 1).isEmpty = false) : (100 : Int) = facOf (sg x ++ sg z) := by
  rw [lit_pc, occ_one, sg_append] at h; simp only [Bool.not_eq_false', decide_eq_true_eq] at h; rw [facOf, if_pos h]
theorem fac1000 {x z : PySem.Str} (h : (PySem.Builtin.Str.occurrences (x ++ z) (PySem.Str.ofString "%") 0 (x ++ z).length 1).isEmpty = true) (h' : (PySem.Builtin.Str.occurrences (x ++ z) (PySem.Str.ofString "‰") 0 (x ++ z).length 1).isEmpty = false) : (1000 : Int) = facOf (sg x ++ sg z) := by
  rw [lit_pc, occ_one, sg_append] at h; rw [lit_pm, occ_one, sg_append] at h'; simp only [Bool.not_eq_false', Bool.not_eq_true', decide_eq_true_eq, decide_eq_false_iff_not] at h h'; rw [facOf, if_neg h, if_pos h']
theorem fac1 {x z : PySem.Str} (h : (PySem.Builtin.Str.occurrences (x ++ z) (PySem.Str.ofString "%") 0 (x ++ z).length 1).isEmpty = true) (h' : (PySem.Builtin.Str.occurrences (x ++ z) (PySem.Str.ofString "‰") 0 (x ++ z).length 1).isEmpty = true) : (1 : Int) = facOf (sg x ++ sg z) := by
  rw [lit_pc, occ_one, sg_append] at h; rw [lit_pm, occ_one, sg_append] at h'; simp only [Bool.not_eq_false', Bool.not_eq_true', decide_eq_true_eq, decide_eq_false_iff_not] at h h'; rw [facOf, if_neg h, if_neg h']
end Mine
namespace Mine
theorem pool_con (w : World) (mean : ExcName → Option Value) (mg mb : PySem.Str → Option Value) (l : PySem.Addr) (vs : List Value) (ns : List Int) (news : Obs) (hI : IntsAre vs ns) (hn : ns.length ≤ 63)
    (dp un : Nat) (gd : Option (List Code)) (cn : PySem.Str) (cs : Scope) (a : PySem.Addr) (ccd : Value) (cl : List (PySem.Str × PySem.Addr)) (outer : List Env) (A₀ : Around) (base h₀ : Heap) (L : PySem.Addr) (m : PySem.Str → Option Value) (s : Shared) (Q E : Value → Shared → Prop)
    (B : Below A₀ base outer h₀) (F : Fr h₀ L s.heap m) (X : (kh w.params).In h₀) (N : News h₀ L s.heap news) (T : TopV mean mg mb h₀) (hk : cs.kind = .function) (hl : base.IsList l vs.toArray)
    (hdp : dp + 5 < recursionLimit) (hu : un + 8 * 5 < cLine)
    (hret : ∀ (src : PySem.Addr) (a b : Int) (ta tb : PySem.Tok) (n : Nat) h' tk', 0 ≤ a → 0 ≤ b → b < 2147483647 → AllLt src news → Fr h₀ L h' m → News h₀ L h' ((src, listOf #[.int a ta, .int b tb] n) :: news) → Q (.ref src) { s with heap := h', toks := tk' }) :
      wpAny (model PySem.Challenge.rw_xm0635_01.row.prog w) (ktrTop dp un gd cn cs L a ccd cl outer) (call (.ref 109) [.ref l]) Q E s := by
  have kf : kh w.params = kh w.params ∧ PySem.Challenge.rw_xm0635_01 = PySem.Challenge.rw_xm0635_01 := by k_fill; exact ⟨rfl, rfl⟩
  clear kf
  w_top off
  k_with_none
  k_with "subscriptTail Name Constant ref int" => (k_here; (with_reducible show wpAny _ _ (subscriptTail _ _ (Value.ref _) (Value.int _ _)) _ _ _); k_dflt (refine' item_at (IsL.isList (News.get (by k_asm) (by k_mem))) (by decide) (by decide) (by rfl) ?_ (by with_unfolding_all rfl); k_whole))
  k_with "binaryOp FloorDiv int int" => (refine PyProof.Rows.floordiv_int (by omega) ?_)
  k_with "binaryOp Mod int int" => (refine PyProof.Rows.mod_int (by omega) ?_)
  k_with "unf" => repeat' (first | ((fail_if_success (first | (with_reducible show wpAny _ _ (exec (Stmt.While _ _ _ _) _) _ _ _) | (with_reducible show WEnd _ _ _ _ _ _ _ _ _) | (with_reducible show REnd _ _ _ _ _ _ _ _ _) | (with_reducible show Mine.WDone _ _ _ _ _ _ _ _) | (with_reducible show Mine.CPost _ _ _ _ _ _ _ _) | (with_reducible show wpAny _ _ (pyIter _) (fun it s₂ => LoopAtV _ _ _ _ _ _ _ _ _ it s₂) _ _))); first | (k_unfold; (try dsimp only)) | (k_end; wrow_close) | walk1 | (dsimp only; walk1) | (leave1; walk_say "STEP leave1"; try dsimp only)) | fail "no step")
  k_with "WPost" => dsimp only [WPost]
  k_with "RPost" => dsimp only [RPost]
  k_with "exec For Name Call cons nil" => (k_here; (rename Fr _ _ _ _ => lF'); (with_unfolding_all refine' For_invVF lF' (by exact rfl) (by exact rfl) ?_; k_whole))
  k_with "exec For Name Subscript cons nil" => (k_here; (rename Fr _ _ _ _ => lF'); (with_unfolding_all refine' For_invVF lF' (by exact rfl) (by exact rfl) ?_; k_whole))
  k_with "tb1" => (repeat' (first | exact trivial | refine FrAg.cons (by rfl) ?_))
  k_with "tb2" => first | (intro y hy; simp only [List.forall_mem_cons] at hy; simp [lk_cons, hy]; done) | (intro y hx hy; simp only [List.forall_mem_cons] at hy; simp [lk_cons, hx, hy]; done)
  k_with "pick" => first | exact Pick.head (by k_all) | exact Pick.tail (by k_ne) (by kwd_rel)
  k_with "units" => (have hcL9 := cLine_is; (try simp only [units_under_make, units_in1, units_deeper, Around.mark_units, units_caller] at *); (try dsimp only [ktrTop] at *); omega)
  k_with "om" => (with_reducible (first | (show (_ : Int) ≤ _; first | exact lo_of (by first | assumption | exact And.left (by assumption)) (by decide) | exact hi_of1 (by first | assumption | exact And.right (by assumption)) (by decide) | exact hi_of2 (by first | assumption | exact And.right (by assumption)) (by decide) | exact lo_pos (by assumption) (by decide) | exact And.left (by assumption)) | (show (_ : Int) < _; first | exact And.right (by assumption) | exact hi_of3 (by first | assumption | exact And.right (by assumption)) (by decide) | exact hi_of4 (by first | assumption | exact And.right (by assumption)) (by decide) | exact lo_lt (by first | assumption | exact And.left (by assumption)) (by decide)) | (show (_ : Nat) < _; first | exact room2 (by assumption) (by decide) | exact room1 (by assumption) (by decide) | exact room0 (by assumption) | exact nhi_of3 (by assumption) (by decide) | exact nhi_of4 (by assumption) (by decide)) | (show (_ : Nat) ≤ _; first | exact nhi_of2 (by assumption) (by decide) | exact nhi_of1 (by assumption) (by decide)) | (show @Ne Nat _ _; first | exact Ne.symm (by assumption) | exact Nat.ne_of_gt (by first | assumption | exact And.left (by assumption) | exact And.left (And.right (by assumption)) | exact And.left (And.right (And.right (by assumption))) | exact And.left (And.right (And.right (And.right (by assumption))))) | exact Nat.ne_of_lt (by first | assumption | exact And.left (by assumption) | exact And.left (And.right (by assumption)) | exact And.left (And.right (And.right (by assumption))) | exact And.left (And.right (And.right (And.right (by assumption)))))) | (show _ ∧ _; exact And.intro (by omega) (by omega))))
  refine wpAny_call ?_
  k_dflt cell_enter
  (rename Fr _ _ _ _ => lF); replace lF : Fr _ _ _ (fun y => List.lookup y [(PySem.Str.ofString "script", .ref l)]) := lF
  ktr_unf
  all_goals ((rename Fr h₀ _ _ _ => zF); (rename News h₀ _ _ _ => zN); (rename ∀ p ∈ news, p.1 < _ => l1); refine hret _ _ _ _ _ _ _ _ ?_ ?_ ?_ (allLt_of l1) zF zN)
  all_goals first | exact Int.fmod_nonneg_of_pos _ (by decide) | exact Int.fmod_lt_of_pos _ (by decide) | (refine Int.mul_nonneg ?_ ?_ <;> (first | omega | (split <;> omega)))
end Mine
namespace Mine
section
variable {w : World} {mean : ExcName → Option Value} {mg mb : PySem.Str → Option Value} {dp un : Nat} {gd : Option (List Code)} {cn : PySem.Str} {cs : Scope} {ad : PySem.Addr} {ccd : Value} {cl : List (PySem.Str × PySem.Addr)} {outer : List Env} {A₀ : Around} {base h₀ : Heap} {L : PySem.Addr} {m : PySem.Str → Option Value} {s : Shared} {Q E : Value → Shared → Prop}
theorem half_near {a b : Int} {ta tb : PySem.Tok} {news : Obs}
    (B : Below A₀ base outer h₀) (F : Fr h₀ L s.heap m) (X : (kh w.params).In h₀) (N : News h₀ L s.heap news) (T : TopV mean mg mb h₀) (hk : cs.kind = .function)
    (hd : dp + 1 < recursionLimit) (hu : un + 8 * 1 < cLine) (ha : 0 ≤ a) (ha' : a ≤ 12000) (hb : 0 < b) (hb' : b ≤ 2000)
    (ret : ∀ (r : Int) (tr : PySem.Tok) (h' : Heap) (tk' : Nat), 0 ≤ r → r ≤ 12001 → 2 * (a - r * b) ≤ b → 2 * (r * b - a) ≤ b → (2 * (a - r * b) = b ∨ 2 * (r * b - a) = b → r.fmod 2 ≠ 1) → Fr h₀ L h' m → News h₀ L h' news → Q (.int r tr) { s with heap := h', toks := tk' }) :
    wpAny (model PySem.Challenge.rw_xm0635_01.row.prog w) (ktrTop dp un gd cn cs L ad ccd cl outer) (call (.ref 88) [.int a ta, .int b tb]) Q E s :=
  half_use B F X N T hk hd hu ha hb (by omega) fun r tr h' tk' e h1 h2 F' N' => by
    obtain ⟨z1, z2, z3, z4⟩ := near_same ha hb
    rw [← e] at z2 z3 z4
    exact ret r tr h' tk' h1 (by omega) z2 z3 z4 F' N'
end
theorem News_drop4 {h₀ h : Heap} {L : PySem.Addr} {a b c d : PySem.Addr × Obj} {r : Obs} (N : News h₀ L h (a :: b :: c :: d :: r)) : News h₀ L h (b :: r) := News_sub N fun p hp => by
  rcases List.mem_cons.mp hp with rfl | hp
  · exact .tail _ (.head _)
  · exact .tail _ (.tail _ (.tail _ (.tail _ hp)))
theorem contra_big {a c r c1 c2 c3 : Int} (h1 : 2 * (a - r * c) ≤ c) (h2 : 2 * (r * c - a) ≤ c) (h6 : c3 = 2 * if c2 - a > a - c1 then c2 - a else a - c1) (h7 : c1 = r * c) (h8 : c2 = r * c) (h9 : c < c3) : False := by
  subst h7 h8 h6
  split at h9
  · exact Int.not_lt_of_ge h2 h9
  · exact Int.not_lt_of_ge h1 h9
theorem contra_half {a c r c1 c2 c3 : Int} (h6 : c3 = 2 * if c1 - a > a - c2 then c1 - a else a - c2) (h7 : c1 = r * c) (h8 : c2 = r * c) (h9 : c3 = c) (h5 : r.fmod 2 = 1) (h4 : 2 * (a - r * c) = c ∨ 2 * (r * c - a) = c → r.fmod 2 ≠ 1) : False := by
  refine h4 ?_ h5
  subst h7 h8
  split at h6
  · exact .inr (h6.symm.trans h9)
  · exact .inl (h6.symm.trans h9)
theorem shaped3 {x z : PySem.Str} {k : Int} (hx : PySem.PyData.canLay0 (.str x) = true) (hz : PySem.PyData.canLay0 (.str z) = true) : SeqAt.shaped (.tuple [.str x, .str z, .int k]) = true := by
  simp only [SeqAt.shaped, PyData.canLay0, PyData.canLayAll0] at hx hz ⊢
  rw [hx, hz]; rfl
end Mine
namespace Mine
def FacPost (g : Heap) (L : PySem.Addr) (s : Shared) (m : PySem.Str → Option Value) (led : Obs) (A Z : PySem.Str) (E : Unit) (x : Unit) (fl : Flow) (s' : Shared) : Prop :=
  fl = .next ∧ ∃ (fv : Int) (tf : PySem.Tok) (h' : Heap) (tk' : Nat), s' = { s with heap := h', toks := tk' } ∧ Fr g L h' (fun y => if y = PySem.Str.ofString "factor" then some (.int fv tf) else m y) ∧ News g L h' led ∧ fv = facOf (sg A ++ sg Z)
theorem FacPost.intro {g : Heap} {L : PySem.Addr} {s : Shared} {m : PySem.Str → Option Value} {led : Obs} {A Z : PySem.Str} {fv : Int} {tf : PySem.Tok} {h' : Heap} {tk' : Nat} (F : Fr g L h' (fun y => if y = PySem.Str.ofString "factor" then some (.int fv tf) else m y)) (N : News g L h' led) (e : fv = facOf (sg A ++ sg Z)) :
    FacPost g L s m led A Z () () .next { s with heap := h', toks := tk' } := ⟨rfl, fv, tf, h', tk', rfl, F, N, e⟩
theorem cut_factor {M : Model} {Ar : Around} {env : Env} {st : Stmt} {rest : List Stmt} {Q : Flow → Shared → Prop} {E : Value → Shared → Prop} {s : Shared} {g : Heap} {L : PySem.Addr} {m : PySem.Str → Option Value} {led : Obs} {A Z : PySem.Str} {tA tZ : PySem.Tok} (zF0 : Fr g L s.heap m) (zN0 : News g L s.heap led) (zhA : m (PySem.Str.ofString "ahead") = some (.str A tA)) (zhZ : m (PySem.Str.ofString "behind") = some (.str Z tZ))
    (h1 : wpAny M Ar (exec st env) (fun fl s' => FacPost g L s m led A Z () () fl s') E s)
    (h2 : ∀ (fv : Int) (tf : PySem.Tok) (h' : Heap) (tk' : Nat), fv = facOf (sg A ++ sg Z) → 0 ≤ fv → fv ≤ 1000 → Fr g L h' (fun y => if y = PySem.Str.ofString "factor" then some (.int fv tf) else m y) → News g L h' led → wpAny M Ar (execs rest env) Q E { s with heap := h', toks := tk' }) :
    wpAny M Ar (execs (st :: rest) env) Q E s := by
  refine wpAny_execs_cons (wpAny_mono h1 (fun fl s' q => ?_) fun _ _ x => x)
  obtain ⟨rfl, fv, tf, h', tk', rfl, F', N', e⟩ := q
  exact h2 fv tf h' tk' e (by rw [e, facOf]; split; decide; split <;> decide) (by rw [e, facOf]; split; decide; split <;> decide) F' N'
end Mine
namespace Mine
theorem right_con (w : World) (mean : ExcName → Option Value) (mg mb : PySem.Str → Option Value) (src : PySem.Addr) (a b : Int) (ta tb : PySem.Tok) (n : Nat) (rest : Obs)
    (ha : 0 ≤ a) (hb : 0 ≤ b) (hb' : b < 2147483647) (hr : ∀ p ∈ rest, p.1 ≠ src) :
    Con w mean mg mb 165 40 [.ref src] ((src, listOf #[.int a ta, .int b tb] n) :: rest)
      (fun v news' => ∃ a' b' ta' tb' n', v = .bool true ∧ 0 ≤ a' ∧ 0 ≤ b' ∧ b' < 2147483647 ∧ news' = (src, listOf #[.int a' ta', .int b' tb'] n') :: rest) False := by
  have kf : kh w.params = kh w.params ∧ PySem.Challenge.rw_xm0635_01 = PySem.Challenge.rw_xm0635_01 := by k_fill; exact ⟨rfl, rfl⟩
  clear kf
  w_top off
  k_with_none
  k_with "subscriptTail Name Constant ref int" => (k_here; (with_reducible show wpAny _ _ (subscriptTail _ _ (Value.ref _) (Value.int _ _)) _ _ _); k_dflt (refine' item_at (IsL.isList (News.get (by k_asm) (by k_mem))) (by decide) (by decide) (by rfl) ?_ (by with_unfolding_all rfl); k_whole))
  k_with "binaryOp FloorDiv int int" => (refine PyProof.Rows.floordiv_int (by omega) ?_)
  k_with "binaryOp Mod int int" => (refine PyProof.Rows.mod_int (by omega) ?_)
  k_with "unf" => repeat' (first | ((fail_if_success (first | (with_reducible show wpAny _ _ (exec (Stmt.While _ _ _ _) _) _ _ _) | (with_reducible show WEnd _ _ _ _ _ _ _ _ _) | (with_reducible show REnd _ _ _ _ _ _ _ _ _) | (with_reducible show Mine.WDone _ _ _ _ _ _ _ _) | (with_reducible show Mine.CPost _ _ _ _ _ _ _ _) | (with_reducible show wpAny _ _ (pyIter _) (fun it s₂ => LoopAtV _ _ _ _ _ _ _ _ _ it s₂) _ _))); first | (k_unfold; (try dsimp only)) | (k_end; wrow_close) | walk1 | (dsimp only; walk1) | (leave1; walk_say "STEP leave1"; try dsimp only)) | fail "no step")
  k_with "WPost" => dsimp only [WPost]
  k_with "RPost" => dsimp only [RPost]
  k_with "exec For Name Call cons nil" => (k_here; (rename Fr _ _ _ _ => lF'); (with_unfolding_all refine' For_invVF lF' (by exact rfl) (by exact rfl) ?_; k_whole))
  k_with "exec For Name Subscript cons nil" => (k_here; (rename Fr _ _ _ _ => lF'); (with_unfolding_all refine' For_invVF lF' (by exact rfl) (by exact rfl) ?_; k_whole))
  k_with "tb1" => (repeat' (first | exact trivial | refine FrAg.cons (by rfl) ?_))
  k_with "tb2" => first | (intro y hy; simp only [List.forall_mem_cons] at hy; simp [lk_cons, hy]; done) | (intro y hx hy; simp only [List.forall_mem_cons] at hy; simp [lk_cons, hx, hy]; done)
  k_with "pick" => first | exact Pick.head (by k_all) | exact Pick.tail (by k_ne) (by kwd_rel)
  k_with "units" => (have hcL9 := cLine_is; (try simp only [units_under_make, units_in1, units_deeper, Around.mark_units, units_caller] at *); (try dsimp only [ktrTop] at *); omega)
  k_with "om" => (with_reducible (first | (show (_ : Int) ≤ _; first | exact lo_of (by first | assumption | exact And.left (by assumption)) (by decide) | exact hi_of1 (by first | assumption | exact And.right (by assumption)) (by decide) | exact hi_of2 (by first | assumption | exact And.right (by assumption)) (by decide) | exact lo_pos (by assumption) (by decide) | exact And.left (by assumption)) | (show (_ : Int) < _; first | exact And.right (by assumption) | exact hi_of3 (by first | assumption | exact And.right (by assumption)) (by decide) | exact hi_of4 (by first | assumption | exact And.right (by assumption)) (by decide) | exact lo_lt (by first | assumption | exact And.left (by assumption)) (by decide)) | (show (_ : Nat) < _; first | exact room2 (by assumption) (by decide) | exact room1 (by assumption) (by decide) | exact room0 (by assumption) | exact nhi_of3 (by assumption) (by decide) | exact nhi_of4 (by assumption) (by decide)) | (show (_ : Nat) ≤ _; first | exact nhi_of2 (by assumption) (by decide) | exact nhi_of1 (by assumption) (by decide)) | (show @Ne Nat _ _; first | exact Ne.symm (by assumption) | exact Nat.ne_of_gt (by first | assumption | exact And.left (by assumption) | exact And.left (And.right (by assumption)) | exact And.left (And.right (And.right (by assumption))) | exact And.left (And.right (And.right (And.right (by assumption))))) | exact Nat.ne_of_lt (by first | assumption | exact And.left (by assumption) | exact And.left (And.right (by assumption)) | exact And.left (And.right (And.right (by assumption))) | exact And.left (And.right (And.right (And.right (by assumption)))))) | (show _ ∧ _; exact And.intro (by omega) (by omega))))
  k_with "call ref" => (k_here; (with_reducible show wpAny _ _ (call (Value.ref 116) _) _ _ _); k_dflt (refine' take_use (by k_asm) (by k_asm) (by k_asm) (by k_asm) (by k_asm) (by first | exact rfl | assumption) (by kwd_rel) (by ktr_room) (by ktr_units) (by omega) (by omega) (by omega) (by omega) (by omega) ?_; k_whole; intro r9 tr9 a9 b9 ta9 tb9 n9 h9 tk9 hr0 hr1 ha0 hb0 hb1 F9 N9; (try k_sweep)))
  k_with "call ref" => (k_here; (with_reducible show wpAny _ _ (call (Value.ref 123) _) _ _ _); k_dflt (refine' sign_use (by k_asm) (by k_asm) (by k_asm) (by k_asm) (by k_asm) (by first | exact rfl | assumption) (by kwd_rel) (by k_mem) (by k_ne) (by ktr_room) (by ktr_units) (by omega) (by omega) (by omega) ?_; k_whole; intro x9 tx9 a9 b9 ta9 tb9 n9 h9 tk9 hs9 hl9 hso9 ha0 hb0 hb1 F9 N9; (try k_sweep)))
  k_with "call ref" => (k_here; (with_reducible show wpAny _ _ (call (Value.ref 123) _) _ _ _); k_dflt (refine' bot_use (by k_asm) (by k_asm) (by k_asm) (by k_asm) (by k_asm) (by first | exact rfl | assumption) (by kwd_rel) (by k_mem) (by k_ne) (by ktr_room) (by ktr_units) (by omega) (by omega) (by omega) ?_; k_whole; intro c9 tc9 a9 b9 ta9 tb9 n9 h9 tk9 hc0 hc1 ha0 hb0 hb1 F9 N9; (try k_sweep)))
  k_with "call ref" => (k_here; (with_reducible show wpAny _ _ (call (Value.ref 130) _) _ _ _); k_dflt (refine' row_use (by k_asm) (by k_asm) (by k_asm) (by k_asm) (by k_asm) (by first | exact rfl | assumption) (by kwd_rel) (by ktr_room) (by ktr_units) (by omega) (by omega) (by omega) ?_; k_whole; intro D9 R9 mu9 sz9 le9 mo9 tR9 tmu9 tsz9 tle9 tmo9 a9 b9 ta9 tb9 n9 h9 tk9 hrow9 hRl9 hm0 hm1 hs0 hs1 hl0 hl1 ho0 ho1 ha0 hb0 hb1 hD9 hDr9 F9 N9; (try k_sweep)))
  k_with "call ref" => (k_here; (with_reducible show wpAny _ _ (call (Value.ref 81) _) _ _ _); k_dflt (refine' rd_row (by k_asm) (by k_asm) (by k_asm) (by k_asm) (by k_asm) (by first | exact rfl | assumption) (by ktr_room) (by ktr_units) (by assumption) (by assumption) (by assumption) (by assumption) ?_; k_whole; intro p9 d9 h19 h29 h39 h49 h59 h69 h79 k19 k29 k39 k49 k59 k69 k79 ta9 tz9 t39 t49 t59 t69 t79 h9 tk9 l19 l29 F9 N9; (try dsimp only [AllLt] at l19); (try k_sweep)))
  k_with "call ref" => (k_here; (with_reducible show wpAny _ _ (call (Value.ref 88) _) _ _ _); k_dflt (refine' half_near (by k_asm) (by k_asm) (by k_asm) (by k_asm) (by k_asm) (by first | exact rfl | assumption) (by ktr_room) (by ktr_units) (by omega) (by omega) (by omega) (by omega) ?_; k_whole; intro r9 tr9 h9 tk9 hr0 hr1 hr2 hr3 hr4 F9 N9; (try k_sweep)))
  k_with "call ref" => (k_here; (with_reducible show wpAny _ _ (call (Value.ref 102) _) _ _ _); k_dflt (refine' dig_use (by k_asm) (by k_asm) (by k_asm) (by k_asm) (by k_asm) (by first | exact rfl | assumption) (by k_mem) (by k_mem) (by ktr_room) (by ktr_units) (by omega) (by omega) (by omega) (by omega) (by omega) (by omega) (by omega) (by omega) (by omega) (by omega) (by omega) (by omega) (by omega) (by omega) ?_; k_whole; intro y9 ty9 h9 tk9 hy9 F9 N9; (try k_sweep)))
  k_with "call ref" => (k_here; (with_reducible show wpAny _ _ (call (Value.ref 151) _) _ _ _); k_dflt (refine' fig_use (by k_asm) (by k_asm) (by k_asm) (by k_asm) (by k_asm) (by first | exact rfl | assumption) (by ktr_room) (by ktr_units) (by omega) (by omega) (by omega) (by omega) (by omega) (by omega) (by omega) (by omega) (by omega) (by omega) (by omega) (by omega) ?_; k_whole; intro y9 ty9 h9 tk9 hy9 F9 N9; (replace hy9 := Eq.symm hy9); (try k_sweep)))
  k_with "om" => ((with_reducible rename (_ : Int) = 2 * ite _ _ _ => hz9); with_reducible first | exact contra_big (by assumption) (by assumption) (by assumption) (by assumption) (by assumption) (by assumption) | exact fun z => contra_big (by assumption) (by assumption) (by assumption) (by assumption) (by assumption) z | exact Int.not_lt.mp fun z => contra_big (by assumption) (by assumption) (by assumption) (by assumption) (by assumption) z)
  k_with "binaryOp Mult int int" => (first | (refine mul_r 12000 1000 (by omega) (by omega) (by omega) (by omega) (by mul_fits) ?_; intro c9 hc9 hc0 hc1) | (refine mul_r 12001 2000 (by omega) (by omega) (by omega) (by omega) (by mul_fits) ?_; intro c9 hc9 hc0 hc1))
  k_with "compareOp NotEq ref ref" => (k_here; (with_reducible show wpAny _ _ (compareOp CmpOp.NotEq (Value.ref _) (Value.ref _)) _ _ _); k_dflt (refine ne_dataH (by ke_read) (by ke_read) (by first | exact shaped3 (by assumption) (by assumption) | ke_shaped) (by first | exact shaped3 (by assumption) (by assumption) | ke_shaped) (by ktr_units) ?_); ke_norm)
  k_with "eval Call" => (k_here; k_dflt (refine Call_ ?_))
  k_with "unf" => repeat' (first | ((fail_if_success (first | (with_reducible show wpAny _ _ (execs (Stmt.Assign [Expr.Name (PySem.Str.ofString "factor") _] _ _ :: _) _) _ _ _) | (with_reducible show Mine.FacPost _ _ _ _ _ _ _ _ _ _) | (with_reducible show wpAny _ _ (exec (Stmt.While _ _ _ _) _) _ _ _) | (with_reducible show WEnd _ _ _ _ _ _ _ _ _) | (with_reducible show REnd _ _ _ _ _ _ _ _ _) | (with_reducible show Mine.WDone _ _ _ _ _ _ _ _) | (with_reducible show Mine.CPost _ _ _ _ _ _ _ _) | (with_reducible show wpAny _ _ (pyIter _) (fun it s₂ => LoopAtV _ _ _ _ _ _ _ _ _ it s₂) _ _))); first | (k_unfold; (try dsimp only)) | (k_end; wrow_close) | walk1 | (dsimp only; walk1) | (leave1; walk_say "STEP leave1"; try dsimp only)) | fail "no step")
  intro dp un gd cn cs ad ccd cl outer A₀ base h₀ L m s Q E B F X N T hk hd hu hret hexc
  refine wpAny_call ?_
  k_dflt cell_enter
  (rename Fr _ _ _ _ => lF); replace lF : Fr _ _ _ (fun y' => List.lookup y' [(PySem.Str.ofString "source", .ref src)]) := lF
  have hfin : ∀ {h' : Heap} {tk' : Nat} {led r : Obs} {a b : Int} {ta tb : PySem.Tok} {n : Nat}, Fr h₀ L h' m → News h₀ L h' led → Pick src (listOf #[.int a ta, .int b tb] n) led r → (∀ p ∈ rest, p ∈ r) → 0 ≤ a → 0 ≤ b → b < 2147483647 → Q (.bool true) { s with heap := h', toks := tk' } := by
    intro h' tk' led r a b ta tb n F' N' pk hr' q1 q2 q3
    refine hret _ _ _ _ ⟨a, b, ta, tb, n, rfl, q1, q2, q3, rfl⟩ F' (News_sub N' fun p hp => pk.sub p ?_)
    rcases List.mem_cons.mp hp with rfl | hp
    · exact .head _
    · exact .tail _ (hr' p hp)
  ktr_unf
  (rename Fr _ _ _ _ => lF); (rename News _ _ _ _ => lN)
  replace lN := News_drop4 lN
  refine cut_factor lF lN (by rfl) (by rfl) ?_ ?_
  · ktr_unf
    all_goals ((rename Fr _ _ _ _ => lF'); (rename News _ _ _ _ => lN'); refine FacPost.intro lF' lN' ?_)
    all_goals first | exact fac100 (by assumption) | exact fac1000 (by assumption) (by assumption) | exact fac1 (by assumption) (by assumption)
  clear lF lN
  intro fv tf h' tk' hfv hf0 hf1 F' N'
  ktr_unf
  all_goals first
    | exact (contra_half (by assumption) (by assumption) (by assumption) (by assumption) (by assumption) (by assumption)).elim
    | ((rename Fr h₀ _ _ _ => zF); (rename News h₀ _ _ _ => zN); (with_reducible rename sg _ = Mine.fin _ _ _ _ _ => e1); (with_reducible rename Mine.fin _ _ _ _ _ = sg _ => e2)
       (rename _ = _ * fv => hc)
       rw [hc] at e2
       have e := sg_inj (e1.trans e2)
       rw [e, beq_self_eq_true]
       refine' hfin zF zN ?kp ?kr ?k1 ?k2 ?k3
       case kp => kwd_rel
       case kr => intro p hp; repeat (first | assumption | refine List.mem_cons_of_mem _ ?_)
       case k1 => assumption
       case k2 => assumption
       case k3 => assumption)
end Mine
namespace Mine
section
variable {w : World} {mean : ExcName → Option Value} {mg mb : PySem.Str → Option Value} {dp un : Nat} {gd : Option (List Code)} {cn : PySem.Str} {cs : Scope} {ad : PySem.Addr} {ccd : Value} {cl : List (PySem.Str × PySem.Addr)} {outer : List Env} {A₀ : Around} {base h₀ : Heap} {L : PySem.Addr} {m : PySem.Str → Option Value} {s : Shared} {Q E : Value → Shared → Prop}
theorem g123_use {tx ts : PySem.Tok} {news : Obs}
    (B : Below A₀ base outer h₀) (F : Fr h₀ L s.heap m) (X : (kh w.params).In h₀) (N : News h₀ L s.heap news) (T : TopV mean mg mb h₀) (hk : cs.kind = .function)
    (hd : dp + 1 < recursionLimit) (hu : un + 8 * 1 < cLine)
    (ret : ∀ (ty : PySem.Tok) (h' : Heap) (tk' : Nat), Fr h₀ L h' m → News h₀ L h' news → Q (.str (PySem.Str.ofString "123") ty) { s with heap := h', toks := tk' }) :
    wpAny (model PySem.Challenge.rw_xm0635_01.row.prog w) (ktrTop dp un gd cn cs L ad ccd cl outer) (call (.ref 95) [.str (PySem.Str.ofString "123") tx, .int 3 ts]) Q E s :=
  grouped_use B F X N T hk hd hu (by decide +kernel) (by decide) fun y ty h' tk' e _ F' N' => by
    have e0 : sg (PySem.Str.ofString "123") = [49, 50, 51] := by decide +kernel
    have e1 : sg y = sg (PySem.Str.ofString "123") := by rw [e, e0, grp_stop (by decide)]
    rw [sg_inj e1]; exact ret ty h' tk' F' N'
theorem g1234_use {tx ts : PySem.Tok} {news : Obs}
    (B : Below A₀ base outer h₀) (F : Fr h₀ L s.heap m) (X : (kh w.params).In h₀) (N : News h₀ L s.heap news) (T : TopV mean mg mb h₀) (hk : cs.kind = .function)
    (hd : dp + 1 < recursionLimit) (hu : un + 8 * 1 < cLine)
    (ret : ∀ (ty : PySem.Tok) (h' : Heap) (tk' : Nat), Fr h₀ L h' m → News h₀ L h' news → Q (.str (PySem.Str.ofString "1,234") ty) { s with heap := h', toks := tk' }) :
    wpAny (model PySem.Challenge.rw_xm0635_01.row.prog w) (ktrTop dp un gd cn cs L ad ccd cl outer) (call (.ref 95) [.str (PySem.Str.ofString "1234") tx, .int 3 ts]) Q E s :=
  grouped_use B F X N T hk hd hu (by decide +kernel) (by decide) fun y ty h' tk' e _ F' N' => by
    have e0 : sg (PySem.Str.ofString "1234") = [49, 50, 51, 52] := by decide +kernel
    have e2 : sg (PySem.Str.ofString "1,234") = [49, 44, 50, 51, 52] := by decide +kernel
    have e1 : sg y = sg (PySem.Str.ofString "1,234") := by
      rw [e, e0, e2, grp_step (by decide) (by decide)]
      show grp 3 [49] ++ 44 :: [50, 51, 52] = _
      rw [grp_stop (by decide)]; rfl
    rw [sg_inj e1]; exact ret ty h' tk' F' N'
theorem bad_use {src th : PySem.Addr} {a b : Int} {ta tb t1 t2 t3 t4 t5 t6 t7 t8 t9 t10 t11 t12 : PySem.Tok} {n k : Nat} {news r : Obs}
    (B : Below A₀ base outer h₀) (F : Fr h₀ L s.heap m) (X : (kh w.params).In h₀) (N : News h₀ L s.heap news) (T : TopV mean mg mb h₀) (hk : cs.kind = .function)
    (pk : Pick src (listOf #[.int a ta, .int b tb] n) news r) (hth : (th, listOf #[.str (PySem.Str.ofString "0#") t1, .str (PySem.Str.ofString "") t2, .str (PySem.Str.ofString "ab") t3, .str (PySem.Str.ofString "0.#0") t4, .str (PySem.Str.ofString "0.0.0") t5, .str (PySem.Str.ofString "0a0") t6, .str (PySem.Str.ofString "#.0,0") t7, .str (PySem.Str.ofString ",") t8, .str (PySem.Str.ofString ".") t9, .str (PySem.Str.ofString "#,0#") t10, .str (PySem.Str.ofString "0 0") t11, .str (PySem.Str.ofString "(0)0") t12] k) ∈ news) (hne : th ≠ src)
    (hd : dp + 2 < recursionLimit) (hu : un + 8 * 2 < cLine) (ha : 0 ≤ a) (hb : 0 ≤ b) (hb' : b < 2147483647)
    (ret : ∀ (x : PySem.Str) (tx : PySem.Tok) (a' b' : Int) (ta' tb' : PySem.Tok) (n' : Nat) (h' : Heap) (tk' : Nat), rdBad (sg x) = true → x.length ≤ 10 → 0 ≤ a' → 0 ≤ b' → b' < 2147483647 → Fr h₀ L h' m → News h₀ L h' ((src, listOf #[.int a' ta', .int b' tb'] n') :: r) → Q (.str x tx) { s with heap := h', toks := tk' }) :
    wpAny (model PySem.Challenge.rw_xm0635_01.row.prog w) (ktrTop dp un gd cn cs L ad ccd cl outer) (call (.ref 123) [.ref src, .ref th]) Q E s :=
  one_use (vs := [.str (PySem.Str.ofString "0#") t1, .str (PySem.Str.ofString "") t2, .str (PySem.Str.ofString "ab") t3, .str (PySem.Str.ofString "0.#0") t4, .str (PySem.Str.ofString "0.0.0") t5, .str (PySem.Str.ofString "0a0") t6, .str (PySem.Str.ofString "#.0,0") t7, .str (PySem.Str.ofString ",") t8, .str (PySem.Str.ofString ".") t9, .str (PySem.Str.ofString "#,0#") t10, .str (PySem.Str.ofString "0 0") t11, .str (PySem.Str.ofString "(0)0") t12]) B F X N T hk pk hth hne hd hu ha hb hb' (by simp) (by simp)
    (by
      intro v a' b' ta' tb' n' h' tk' hv h1 h2 h3 F' N'
      simp only [List.mem_cons, List.not_mem_nil, or_false] at hv
      rcases hv with rfl | rfl | rfl | rfl | rfl | rfl | rfl | rfl | rfl | rfl | rfl | rfl <;> exact ret _ _ a' b' ta' tb' n' h' tk' (by decide +kernel) (by decide +kernel) h1 h2 h3 F' N')
theorem refused_use {x : PySem.Str} {tx : PySem.Tok} {news : Obs} {dp un : Nat} {gd : Option (List Code)}
    (B : Below A₀ base [] h₀) (F : Fr h₀ L s.heap m) (X : (kh w.params).In h₀) (N : News h₀ L s.heap news) (T : TopV mean mg mb h₀) (XB : (kh w.params).In base) (TB : TopV mean mg mb base) (hk : cs.kind = .function)
    (hdp : dp + 40 < recursionLimit) (hu : un + 8 * 40 < cLine) (hx : x.length ≤ 1100) (hbad : rdBad (sg x) = true)
    (ret : ∀ (h' : Heap) (tk' : Nat), Fr h₀ L h' m → News h₀ L h' news → Q (.bool true) { s with heap := h', toks := tk' }) :
    wpAny (model PySem.Challenge.rw_xm0635_01.row.prog w) (ktrTop dp un gd cn cs L ad ccd [] []) (call (.ref 158) [.str x tx]) Q E s :=
  refused_con w mean mg mb x tx news hx dp un gd cn cs ad ccd A₀ base h₀ L m s Q E B F X N T XB TB hk hdp hu fun h' tk' F' N' => by
    rw [hbad]; exact ret h' tk' F' N'
end
theorem rep_all (n : Nat) : ∀ c ∈ List.replicate n 48, isS c = true := fun c hc => by rw [List.eq_of_mem_replicate hc]; rfl
theorem rep_split {n : Nat} (hn : 0 < n) : bOf (List.replicate n 48) = [] ∧ mOf (List.replicate n 48) = List.replicate n 48 ∧ cOf (List.replicate n 48) = [] := by
  have := split_three (A := []) (l := List.replicate n 48) (Z := []) (fun _ h => nomatch h) (rep_all n) (by cases n with | zero => cases hn | succ k => exact List.cons_ne_nil _ _) (fun _ h => nomatch h)
  simpa using this
theorem rep_wh (n : Nat) : whOf (List.replicate n 48) = List.replicate n 48 ∧ rtOf (List.replicate n 48) = [] := by
  have h : ∀ c ∈ List.replicate n 48, (c != 46) = true := fun c hc => by rw [List.eq_of_mem_replicate hc]; rfl
  exact ⟨by rw [whOf, tw_all h], by rw [rtOf, dw_all h]; rfl⟩
theorem rep_filter (n : Nat) : (List.replicate n 48).filter (· != 44) = List.replicate n 48 := by
  rw [List.filter_eq_self]
  intro c hc; rw [List.eq_of_mem_replicate hc]; rfl
theorem rep_bad {n : Nat} (hn : 0 < n) : rdBad (List.replicate n 48) = decide (1000 < n) := by
  obtain ⟨e1, e2, e3⟩ := rep_split hn
  obtain ⟨e4, e5⟩ := rep_wh n
  have e6 : twoIn 48 35 (List.replicate n 48) = false := twoIn_rep1 (by decide) n
  have e7 : (List.replicate n 48) ≠ [] := by cases n with | zero => cases hn | succ k => exact List.cons_ne_nil _ _
  rw [rdBad, e2, e3, e4, e5, rep_filter, picBad, e6]
  simp [twoIn]
  omega
theorem rep_count {n : Nat} (hn : 0 < n) : ((((whOf (mOf (List.replicate n 48))).filter (· != 44)).count 48 : Nat) : Int) = n := by
  obtain ⟨e1, e2, e3⟩ := rep_split hn
  rw [e2, (rep_wh n).1, rep_filter, List.count_replicate]; simp
theorem noughts {k : Int} {n : Nat} (h : k.toNat = n) : sg (PySem.Txt.mul (PySem.Str.ofString "0") k) = List.replicate n 48 := by rw [sg_mul, h]
section
variable {w : World} {mean : ExcName → Option Value} {mg mb : PySem.Str → Option Value} {dp un : Nat} {gd : Option (List Code)} {cn : PySem.Str} {cs : Scope} {ad : PySem.Addr} {ccd : Value} {cl : List (PySem.Str × PySem.Addr)} {outer : List Env} {A₀ : Around} {base h₀ : Heap} {L : PySem.Addr} {m : PySem.Str → Option Value} {s : Shared} {Q E : Value → Shared → Prop}
theorem big_use {x : PySem.Str} {tx : PySem.Tok} {news : Obs}
    (B : Below A₀ base outer h₀) (F : Fr h₀ L s.heap m) (X : (kh w.params).In h₀) (N : News h₀ L s.heap news) (T : TopV mean mg mb h₀) (hk : cs.kind = .function)
    (hd : dp + 30 < recursionLimit) (hu : un + 8 * 30 < cLine) (hx : sg x = List.replicate 1000 48)
    (ret : ∀ (p dx : PySem.Addr) (h1 h2 h3 h4 h5 h6 h7 sz le mo fv : Int) (A Z : PySem.Str) (k1 k2 k3 k4 k5 k6 k7 ta tz t3 t4 t5 t6 t7 : PySem.Tok) (h' : Heap) (tk' : Nat), AllLt dx news → @LT.lt Nat _ dx p →
        Fr h₀ L h' m → News h₀ L h' ((p, instObj 63 dx) :: (dx, dictOf [⟨h1, .str (PySem.Str.ofString "before") k1, .str A ta⟩, ⟨h2, .str (PySem.Str.ofString "after") k2, .str Z tz⟩, ⟨h3, .str (PySem.Str.ofString "least_whole") k3, .int 1000 t3⟩,
    ⟨h4, .str (PySem.Str.ofString "group") k4, .int sz t4⟩, ⟨h5, .str (PySem.Str.ofString "least_rest") k5, .int le t5⟩, ⟨h6, .str (PySem.Str.ofString "most_rest") k6, .int mo t6⟩, ⟨h7, .str (PySem.Str.ofString "factor") k7, .int fv t7⟩] 7) :: news) → Q (.ref p) { s with heap := h', toks := tk' }) :
    wpAny (model PySem.Challenge.rw_xm0635_01.row.prog w) (ktrTop dp un gd cn cs L ad ccd cl outer) (call (.ref 81) [.str x tx]) Q E s := by
  refine rd_use B F X N T hk hd hu (by rw [← sg_len, hx, List.length_replicate]; decide) ?_ ?_
  · intro p dx es b z lw gr lr mr fa h' tk' he l1 l2 s1 s2 s3 s4 s5 s6 s7 s8 F' N'
    rw [hx, rep_count (by decide)] at s4
    subst s4
    obtain ⟨h1, h2, h3, h4, h5, h6, h7, k1, k2, k3, k4, k5, k6, k7, ta, tz, t3, t4, t5, t6, t7⟩ := he
    exact ret p dx h1 h2 h3 h4 h5 h6 h7 gr lr mr fa b z k1 k2 k3 k4 k5 k6 k7 ta tz t3 t4 t5 t6 t7 h' tk' (allLt_of l1) l2 F' N'
  · intro e h' g' tk' hb
    rw [hx, rep_bad (by decide)] at hb
    exact absurd hb (by decide)
end
end Mine
namespace Mine
section
variable {w : World} {mean : ExcName → Option Value} {mg mb : PySem.Str → Option Value} {dp un : Nat} {gd : Option (List Code)} {cn : PySem.Str} {cs : Scope} {ad : PySem.Addr} {ccd : Value} {cl : List (PySem.Str × PySem.Addr)} {outer : List Env} {A₀ : Around} {base h₀ : Heap} {L : PySem.Addr} {m : PySem.Str → Option Value} {s : Shared} {Q E : Value → Shared → Prop}
theorem right_use {src : PySem.Addr} {a b : Int} {ta tb : PySem.Tok} {n : Nat} {news r : Obs}
    (B : Below A₀ base outer h₀) (F : Fr h₀ L s.heap m) (X : (kh w.params).In h₀) (N : News h₀ L s.heap news) (T : TopV mean mg mb h₀) (hk : cs.kind = .function)
    (pk : Pick src (listOf #[.int a ta, .int b tb] n) news r)
    (hd : dp + 40 < recursionLimit) (hu : un + 8 * 40 < cLine) (ha : 0 ≤ a) (hb : 0 ≤ b) (hb' : b < 2147483647)
    (ret : ∀ (a' b' : Int) (ta' tb' : PySem.Tok) (n' : Nat) (h' : Heap) (tk' : Nat), 0 ≤ a' → 0 ≤ b' → b' < 2147483647 → Fr h₀ L h' m → News h₀ L h' ((src, listOf #[.int a' ta', .int b' tb'] n') :: r) → Q (.bool true) { s with heap := h', toks := tk' }) :
    wpAny (model PySem.Challenge.rw_xm0635_01.row.prog w) (ktrTop dp un gd cn cs L ad ccd cl outer) (call (.ref 165) [.ref src]) Q E s :=
  right_con w mean mg mb src a b ta tb n r ha hb hb' pk.ne dp un gd cn cs ad ccd cl outer A₀ base h₀ L m s Q E B F X (News_sub N pk.sub) T hk hd hu
    (by
      rintro v news' h' tk' ⟨a', b', ta', tb', n', rfl, h1, h2, h3, rfl⟩ F' N'
      exact ret a' b' ta' tb' n' h' tk' h1 h2 h3 F' N')
    (fun _ _ _ _ h => h.elim)
theorem slen {r : Int} (h0 : 0 ≤ r) (h1 : r < 10) : (PySem.Txt.slice (PySem.Str.ofString "907856341") none (some r)).length ≤ 1000 := by
  have e : (PySem.Str.ofString "907856341").length = 9 := by decide +kernel
  rw [← sg_len, sg_to h0 (by omega), List.length_take, sg_len]; omega
theorem pool_use {l : PySem.Addr} {vs : List Value} {ns : List Int} {news : Obs}
    (B : Below A₀ base outer h₀) (F : Fr h₀ L s.heap m) (X : (kh w.params).In h₀) (N : News h₀ L s.heap news) (T : TopV mean mg mb h₀) (hk : cs.kind = .function) (hl : base.IsList l vs.toArray) (hI : IntsAre vs ns) (hn : ns.length ≤ 63)
    (hdp : dp + 5 < recursionLimit) (hu : un + 8 * 5 < cLine)
    (hret : ∀ (src : PySem.Addr) (a b : Int) (ta tb : PySem.Tok) (n : Nat) h' tk', 0 ≤ a → 0 ≤ b → b < 2147483647 → AllLt src news → Fr h₀ L h' m → News h₀ L h' ((src, listOf #[.int a ta, .int b tb] n) :: news) → Q (.ref src) { s with heap := h', toks := tk' }) :
      wpAny (model PySem.Challenge.rw_xm0635_01.row.prog w) (ktrTop dp un gd cn cs L ad ccd cl outer) (call (.ref 109) [.ref l]) Q E s :=
  pool_con w mean mg mb l vs ns news hI hn dp un gd cn cs ad ccd cl outer A₀ base h₀ L m s Q E B F X N T hk hl hdp hu hret
end
end Mine
namespace Mine
theorem law_holds : PySem.Challenge.rw_xm0635_01.Holds := by
  w_on
  o_law
  o_head (kHook kh asL asL_ok)
  case hw => w_witness2
  w_top off
  k_with_none
  k_with "subscriptTail Name Constant ref int" => (k_here; (with_reducible show wpAny _ _ (subscriptTail _ _ (Value.ref _) (Value.int _ _)) _ _ _); k_dflt (refine' item_at (IsL.isList (News.get (by k_asm) (by k_mem))) (by decide) (by decide) (by rfl) ?_ (by with_unfolding_all rfl); k_whole))
  k_with "binaryOp FloorDiv int int" => (refine PyProof.Rows.floordiv_int (by omega) ?_)
  k_with "binaryOp Mod int int" => (refine PyProof.Rows.mod_int (by omega) ?_)
  k_with "unf" => repeat' (first | ((fail_if_success (first | (with_reducible show wpAny _ _ (exec (Stmt.While _ _ _ _) _) _ _ _) | (with_reducible show WEnd _ _ _ _ _ _ _ _ _) | (with_reducible show REnd _ _ _ _ _ _ _ _ _) | (with_reducible show Mine.WDone _ _ _ _ _ _ _ _) | (with_reducible show Mine.CPost _ _ _ _ _ _ _ _) | (with_reducible show wpAny _ _ (pyIter _) (fun it s₂ => LoopAtV _ _ _ _ _ _ _ _ _ it s₂) _ _))); first | (k_unfold; (try dsimp only)) | (k_end; wrow_close) | walk1 | (dsimp only; walk1) | (leave1; walk_say "STEP leave1"; try dsimp only)) | fail "no step")
  k_with "WPost" => dsimp only [WPost]
  k_with "RPost" => dsimp only [RPost]
  k_with "exec For Name Call cons nil" => (k_here; (rename Fr _ _ _ _ => lF'); (with_unfolding_all refine' For_invVF lF' (by exact rfl) (by exact rfl) ?_; k_whole))
  k_with "exec For Name Subscript cons nil" => (k_here; (rename Fr _ _ _ _ => lF'); (with_unfolding_all refine' For_invVF lF' (by exact rfl) (by exact rfl) ?_; k_whole))
  k_with "tb1" => (repeat' (first | exact trivial | refine FrAg.cons (by rfl) ?_))
  k_with "tb2" => first | (intro y hy; simp only [List.forall_mem_cons] at hy; simp [lk_cons, hy]; done) | (intro y hx hy; simp only [List.forall_mem_cons] at hy; simp [lk_cons, hx, hy]; done)
  k_with "pick" => first | exact Pick.head (by k_all) | exact Pick.tail (by k_ne) (by kwd_rel)
  k_with "units" => (have hcL9 := cLine_is; (try simp only [units_under_make, units_in1, units_deeper, Around.mark_units, units_caller] at *); (try dsimp only [ktrTop] at *); omega)
  k_with "om" => (with_reducible (first | (show (_ : Int) ≤ _; first | exact lo_of (by first | assumption | exact And.left (by assumption)) (by decide) | exact hi_of1 (by first | assumption | exact And.right (by assumption)) (by decide) | exact hi_of2 (by first | assumption | exact And.right (by assumption)) (by decide) | exact lo_pos (by assumption) (by decide) | exact And.left (by assumption)) | (show (_ : Int) < _; first | exact And.right (by assumption) | exact hi_of3 (by first | assumption | exact And.right (by assumption)) (by decide) | exact hi_of4 (by first | assumption | exact And.right (by assumption)) (by decide) | exact lo_lt (by first | assumption | exact And.left (by assumption)) (by decide)) | (show (_ : Nat) < _; first | exact room2 (by assumption) (by decide) | exact room1 (by assumption) (by decide) | exact room0 (by assumption) | exact nhi_of3 (by assumption) (by decide) | exact nhi_of4 (by assumption) (by decide)) | (show (_ : Nat) ≤ _; first | exact nhi_of2 (by assumption) (by decide) | exact nhi_of1 (by assumption) (by decide)) | (show @Ne Nat _ _; first | exact Ne.symm (by assumption) | exact Nat.ne_of_gt (by first | assumption | exact And.left (by assumption) | exact And.left (And.right (by assumption)) | exact And.left (And.right (And.right (by assumption))) | exact And.left (And.right (And.right (And.right (by assumption))))) | exact Nat.ne_of_lt (by first | assumption | exact And.left (by assumption) | exact And.left (And.right (by assumption)) | exact And.left (And.right (And.right (by assumption))) | exact And.left (And.right (And.right (And.right (by assumption)))))) | (show _ ∧ _; exact And.intro (by omega) (by omega))))
  k_with "call ref" => (k_here; (with_reducible show wpAny _ _ (call (Value.ref 116) _) _ _ _); k_dflt (refine' take_use (by k_asm) (by k_asm) (by k_asm) (by k_asm) (by k_asm) (by first | exact rfl | assumption) (by kwd_rel) (by first | ktr_room | k_room | decide) (by first | ktr_units | units_room | decide) (by omega) (by omega) (by omega) (by omega) (by omega) ?_; k_whole; intro r9 tr9 a9 b9 ta9 tb9 n9 h9 tk9 hr0 hr1 ha0 hb0 hb1 F9 N9; (try k_sweep)))
  k_with "call ref" => (k_here; (with_reducible show wpAny _ _ (call (Value.ref 95) _) _ _ _); k_dflt (refine' grouped_use (by k_asm) (by k_asm) (by k_asm) (by k_asm) (by k_asm) (by first | exact rfl | assumption) (by first | ktr_room | k_room | decide) (by first | ktr_units | units_room | decide) (by first | omega | exact slen (by assumption) (by assumption)) (by omega) ?_; k_whole; intro y9 ty9 h9 tk9 hy9 hyl9 F9 N9; (try k_sweep)))
  k_with "call ref" => (k_here; (with_reducible show wpAny _ _ (call (Value.ref 95) _) _ _ _); k_dflt (refine' g123_use (by k_asm) (by k_asm) (by k_asm) (by k_asm) (by k_asm) (by first | exact rfl | assumption) (by first | ktr_room | k_room | decide) (by first | ktr_units | units_room | decide) ?_; k_whole; intro ty9 h9 tk9 F9 N9; (try k_sweep)))
  k_with "call ref" => (k_here; (with_reducible show wpAny _ _ (call (Value.ref 95) _) _ _ _); k_dflt (refine' g1234_use (by k_asm) (by k_asm) (by k_asm) (by k_asm) (by k_asm) (by first | exact rfl | assumption) (by first | ktr_room | k_room | decide) (by first | ktr_units | units_room | decide) ?_; k_whole; intro ty9 h9 tk9 F9 N9; (try k_sweep)))
  k_with "call ref" => (k_here; (with_reducible show wpAny _ _ (call (Value.ref 144) _) _ _ _); k_dflt (refine' pieces_use (by k_asm) (by k_asm) (by k_asm) (by k_asm) (by k_asm) (by first | exact rfl | assumption) (by first | ktr_room | k_room | decide) (by first | ktr_units | units_room | decide) (by first | omega | exact slen (by assumption) (by assumption)) (by omega) (by omega) ?_; k_whole; intro y9 ty9 h9 tk9 hy9 hyl9 F9 N9; (replace hy9 := Eq.symm hy9); (try k_sweep)))
  k_with "call ref" => (k_here; (with_reducible show wpAny _ _ (call (Value.ref 165) _) _ _ _); k_dflt (refine' right_use (by k_asm) (by k_asm) (by k_asm) (by k_asm) (by k_asm) (by first | exact rfl | assumption) (by kwd_rel) (by first | ktr_room | k_room | decide) (by first | ktr_units | units_room | decide) (by omega) (by omega) (by omega) ?_; k_whole; intro a9 b9 ta9 tb9 n9 h9 tk9 ha0 hb0 hb1 F9 N9; (try k_sweep)))
  k_with "call ref" => (k_here; (with_reducible show wpAny _ _ (call (Value.ref 123) _) _ _ _); k_dflt (refine' bad_use (by k_asm) (by k_asm) (by k_asm) (by k_asm) (by k_asm) (by first | exact rfl | assumption) (by kwd_rel) (by k_mem) (by k_ne) (by first | ktr_room | k_room | decide) (by first | ktr_units | units_room | decide) (by omega) (by omega) (by omega) ?_; k_whole; intro x9 tx9 a9 b9 ta9 tb9 n9 h9 tk9 hbad9 hl9 ha0 hb0 hb1 F9 N9; (try k_sweep)))
  k_with "call ref" => (k_here; (with_reducible show wpAny _ _ (call (Value.ref 158) _) _ _ _); k_dflt (refine' refused_use (by k_asm) (by k_asm) (by k_asm) (by k_asm) (by k_asm) (by assumption) (by assumption) (by first | exact rfl | assumption) (by first | ktr_room | k_room | decide) (by first | ktr_units | units_room | decide) (by first | omega | (rw [← sg_len, noughts (n := 1001) rfl, List.length_replicate]; decide)) (by first | assumption | (rw [noughts (n := 1001) rfl, rep_bad (by decide)]; rfl)) ?_; k_whole; intro h9 tk9 F9 N9; (try k_sweep)))
  k_with "call ref" => (k_here; (with_reducible show wpAny _ _ (call (Value.ref 81) _) _ _ _); k_dflt (refine' big_use (by k_asm) (by k_asm) (by k_asm) (by k_asm) (by k_asm) (by first | exact rfl | assumption) (by first | ktr_room | k_room | decide) (by first | ktr_units | units_room | decide) (by exact noughts rfl) ?_; k_whole; intro p9 d9 h19 h29 h39 h49 h59 h69 h79 sz9 le9 mo9 fv9 A9 Z9 k19 k29 k39 k49 k59 k69 k79 ta9 tz9 t39 t49 t59 t69 t79 h9 tk9 l19 l29 F9 N9; (try dsimp only [AllLt] at l19); (try k_sweep)))
  k_with "call ref" => (k_here; (with_reducible show wpAny _ _ (call (Value.ref 109) _) _ _ _); k_dflt (refine' pool_use (by k_asm) (by k_asm) (by k_asm) (by k_asm) (by k_asm) (by first | exact rfl | assumption) (by assumption) (by assumption) (by omega) (by first | ktr_room | k_room | decide) (by first | ktr_units | units_room | decide) ?_; k_whole; intro src9 a9 b9 ta9 tb9 n9 h9 tk9 ha0 hb0 hb1 l19 F9 N9; (try dsimp only [AllLt] at l19); (try k_sweep)))
  k_with "eval Call" => (k_here; k_dflt (refine Call_ ?_))
  k_go0
  (rename Top _ _ _ _ _ _ => zT); replace zT : Top vw (looseW vw []) _ _ _ _ := zT
  all_goals try k_fold
  (rename Heap.IsList _ _ _ => hLX); (rename IntsAre _ _ => hIX); (rename Below _ _ _ _ => hBX)
  ktr_unf
  (rename Fr _ _ _ _ => lF0); (rename News _ _ _ _ => lN0); (rename IsRange _ _ _ _ _ _ _ _ => rgX)
  obtain ⟨l, src, a0, b0, ta0, tb0, n0, ig, lF, lN, hz1, hz2, hz3⟩ : ∃ (l src : PySem.Addr) (a0 b0 : Int) (ta0 tb0 : PySem.Tok) (n0 : Nat) (ig : Bool), Fr _ _ _ (fun y => List.lookup y [(PySem.Str.ofString "is_great", .bool ig), (PySem.Str.ofString "source", .ref src), (PySem.Str.ofString "script", .ref l)]) ∧ News _ _ _ [(src, listOf #[.int a0 ta0, .int b0 tb0] n0)] ∧ 0 ≤ a0 ∧ 0 ≤ b0 ∧ b0 < 2147483647 :=
    ⟨_, _, _, _, _, _, _, _, Fr_as lF0 (fr_agree [PySem.Str.ofString "is_great", PySem.Str.ofString "source", PySem.Str.ofString "script"] (by tb_start) (by tb_rel)), lN0, by assumption, by assumption, by assumption⟩
  clear lF0 lN0
  refine' range_own (n := 3) (σ := Option Value × Option Value × Int × Int × PySem.Tok × PySem.Tok × Nat) (fun c y => if y = PySem.Str.ofString "figures" then c.1 else if y = PySem.Str.ofString "size" then c.2.1 else List.lookup y [(PySem.Str.ofString "is_great", .bool ig), (PySem.Str.ofString "source", .ref src), (PySem.Str.ofString "script", .ref l)]) (fun c => [(src, listOf #[.int c.2.2.1 c.2.2.2.2.1, .int c.2.2.2.1 c.2.2.2.2.2.1] c.2.2.2.2.2.2)])
      (fun _ c => 0 ≤ c.2.2.1 ∧ 0 ≤ c.2.2.2.1 ∧ c.2.2.2.1 < 2147483647) [src] (none, none, a0, b0, ta0, tb0, n0) rfl rgX ?z1 ?z2 lF lN ?z3 ?z4 (fun _ => rfl) ?zp ?zt ?zd
  case z1 => exact small_one (by omega) (by omega) (by omega) (by omega)
  case z2 => exact rangeSize_nat _ _
  case z3 =>
    refine fr_agreeX [PySem.Str.ofString "figures", PySem.Str.ofString "size", PySem.Str.ofString "is_great", PySem.Str.ofString "source", PySem.Str.ofString "script"] ?_ ?_
    · tb_start
    · tb_rel
  case z4 => exact fun _ h => h
  case zp => exact ⟨hz1, hz2, hz3⟩
  case zt =>
    intro i
    refine fa7 ?_
    intro fo so a2 b2 ta2 tb2 n2 h tk t own hi hPP hoff F1 N1
    dsimp only at F1 N1 hPP ⊢
    have hP1 := hPP.1
    have hP2 := hPP.2.1
    have hP3 := hPP.2.2
    clear hPP
    clear lF lN
    rw [List.cons_append, List.nil_append] at N1
    have hlit : (PySem.Str.ofString "907856341").length = 9 := by decide +kernel
    have hro : ∀ p ∈ own, p.1 ≠ src := hoff.ne (.head _)
    ktr_unf
    · (rename (_ != _) = true => hne); (with_reducible rename sg _ = grp _ _ => e1); (with_reducible rename grp _ _ = sg _ => e2)
      have e := sg_inj (e1.trans e2)
      rw [e] at hne
      simp at hne
    · (rename Fr _ _ _ _ => lF); (rename News _ _ _ _ => lN); replace lN := News_tail lN
      refine' REnd.intro (_, _, _, _, _, _, _) lF lN (fr_agreeX [PySem.Str.ofString "figures", PySem.Str.ofString "size", PySem.Str.ofString "is_great", PySem.Str.ofString "source", PySem.Str.ofString "script"] ?z1 ?z2) ?zn ?zp
      case z1 => tb_start
      case z2 => tb_rel
      case zn =>
        intro p hp
        rw [List.cons_append, List.nil_append] at hp
        exact hp
      case zp => exact ⟨by assumption, by assumption, by assumption⟩
  case zd =>
    intro u
    refine fa7 ?_
    intro fo so a2 b2 ta2 tb2 n2 h tk hPP F1 N1
    dsimp only at F1 N1 hPP ⊢
    have hP1 := hPP.1
    have hP2 := hPP.2.1
    have hP3 := hPP.2.2
    clear hPP
    clear lF lN
    ktr_unf
end Mine
theorem PySem.Challenge.cw_xm0635_01_holds : PySem.Challenge.rw_xm0635_01.Holds := by
  exact Mine.law_holds
