import PyProof.Rows.All
import Wide.All
import OpenK.AllK
import Wide.FinOn
import Lean
import PySem.Challenge.RW_xm0976_01
open PySem PySem.W PyProof.Rows PySem.Calls PySem.Spec
set_option Elab.async false
set_option maxRecDepth 100000
set_option maxHeartbeats 8000000
set_option linter.all false
set_option rowWalk.seconds 0
namespace Mine
abbrev Use (P : Prop) (_ : P) : Prop := P
theorem use_of {P : Prop} {h : P} : Use P h := h
section head
/-- the statement at a place of a list -/
def nthS : List Stmt → Nat → Stmt
  | [], _ => .Pass ⟨0, 0, 0, 0⟩
  | s :: _, 0 => s
  | _ :: r, n + 1 => nthS r n
/-- a class's statements -/
def inC : Stmt → List Stmt
  | .ClassDef _ _ _ b _ _ _ _ _ _ _ => b
  | _ => []
/-- a def's parameters, body and scope -/
def fnS : Stmt → Option (Arguments × List Stmt × Scope)
  | .FunctionDef _ p b _ _ _ s _ _ _ => some (p, b, s)
  | _ => none
noncomputable def topS : List Stmt := PySem.Challenge.pw_xm0976_01.main.body
/-- the written part of the heap behind the top; the defs' bodies are read out of the row -/
noncomputable def KH : Params → Frag := by
  refine (?f : ∀ (p0 : Arguments) (b0 : List Stmt) (s0 : Scope) (p1 : Arguments) (b1 : List Stmt) (s1 : Scope) (p2 : Arguments) (b2 : List Stmt) (s2 : Scope) (p3 : Arguments) (b3 : List Stmt) (s3 : Scope) (p4 : Arguments) (b4 : List Stmt) (s4 : Scope) (p5 : Arguments) (b5 : List Stmt) (s5 : Scope) (p6 : Arguments) (b6 : List Stmt) (s6 : Scope) (p7 : Arguments) (b7 : List Stmt) (s7 : Scope) (p8 : Arguments) (b8 : List Stmt) (s8 : Scope) (p9 : Arguments) (b9 : List Stmt) (s9 : Scope) (p10 : Arguments) (b10 : List Stmt) (s10 : Scope) (p11 : Arguments) (b11 : List Stmt) (s11 : Scope) (p12 : Arguments) (b12 : List Stmt) (s12 : Scope) (p13 : Arguments) (b13 : List Stmt) (s13 : Scope) (p14 : Arguments) (b14 : List Stmt) (s14 : Scope) (p15 : Arguments) (b15 : List Stmt) (s15 : Scope) (p16 : Arguments) (b16 : List Stmt) (s16 : Scope) (p17 : Arguments) (b17 : List Stmt) (s17 : Scope) (p18 : Arguments) (b18 : List Stmt) (s18 : Scope) (p19 : Arguments) (b19 : List Stmt) (s19 : Scope) (p20 : Arguments) (b20 : List Stmt) (s20 : Scope) (p21 : Arguments) (b21 : List Stmt) (s21 : Scope) (p22 : Arguments) (b22 : List Stmt) (s22 : Scope) (p23 : Arguments) (b23 : List Stmt) (s23 : Scope) (p24 : Arguments) (b24 : List Stmt) (s24 : Scope) (p25 : Arguments) (b25 : List Stmt) (s25 : Scope) (p26 : Arguments) (b26 : List Stmt) (s26 : Scope) (p27 : Arguments) (b27 : List Stmt) (s27 : Scope) (p28 : Arguments) (b28 : List Stmt) (s28 : Scope) (p29 : Arguments) (b29 : List Stmt) (s29 : Scope) (p30 : Arguments) (b30 : List Stmt) (s30 : Scope), fnS (nthS (inC (nthS topS 1)) 0) = some (p0, b0, s0) → fnS (nthS topS 4) = some (p1, b1, s1) → fnS (nthS topS 5) = some (p2, b2, s2) → fnS (nthS topS 6) = some (p3, b3, s3) → fnS (nthS topS 7) = some (p4, b4, s4) → fnS (nthS (inC (nthS topS 11)) 0) = some (p5, b5, s5) → fnS (nthS (inC (nthS topS 11)) 1) = some (p6, b6, s6) → fnS (nthS (inC (nthS topS 11)) 2) = some (p7, b7, s7) → fnS (nthS topS 13) = some (p8, b8, s8) → fnS (nthS topS 14) = some (p9, b9, s9) → fnS (nthS topS 15) = some (p10, b10, s10) → fnS (nthS topS 16) = some (p11, b11, s11) → fnS (nthS topS 17) = some (p12, b12, s12) → fnS (nthS topS 18) = some (p13, b13, s13) → fnS (nthS topS 20) = some (p14, b14, s14) → fnS (nthS topS 21) = some (p15, b15, s15) → fnS (nthS topS 22) = some (p16, b16, s16) → fnS (nthS topS 23) = some (p17, b17, s17) → fnS (nthS topS 24) = some (p18, b18, s18) → fnS (nthS topS 25) = some (p19, b19, s19) → fnS (nthS topS 26) = some (p20, b20, s20) → fnS (nthS topS 27) = some (p21, b21, s21) → fnS (nthS topS 28) = some (p22, b22, s22) → fnS (nthS topS 29) = some (p23, b23, s23) → fnS (nthS topS 30) = some (p24, b24, s24) → fnS (nthS topS 31) = some (p25, b25, s25) → fnS (nthS topS 32) = some (p26, b26, s26) → fnS (nthS topS 33) = some (p27, b27, s27) → fnS (nthS topS 34) = some (p28, b28, s28) → fnS (nthS topS 35) = some (p29, b29, s29) → fnS (nthS topS 36) = some (p30, b30, s30) → Params → Frag) ?p0 ?b0 ?s0 ?p1 ?b1 ?s1 ?p2 ?b2 ?s2 ?p3 ?b3 ?s3 ?p4 ?b4 ?s4 ?p5 ?b5 ?s5 ?p6 ?b6 ?s6 ?p7 ?b7 ?s7 ?p8 ?b8 ?s8 ?p9 ?b9 ?s9 ?p10 ?b10 ?s10 ?p11 ?b11 ?s11 ?p12 ?b12 ?s12 ?p13 ?b13 ?s13 ?p14 ?b14 ?s14 ?p15 ?b15 ?s15 ?p16 ?b16 ?s16 ?p17 ?b17 ?s17 ?p18 ?b18 ?s18 ?p19 ?b19 ?s19 ?p20 ?b20 ?s20 ?p21 ?b21 ?s21 ?p22 ?b22 ?s22 ?p23 ?b23 ?s23 ?p24 ?b24 ?s24 ?p25 ?b25 ?s25 ?p26 ?b26 ?s26 ?p27 ?b27 ?s27 ?p28 ?b28 ?s28 ?p29 ?b29 ?s29 ?p30 ?b30 ?s30 ?h0 ?h1 ?h2 ?h3 ?h4 ?h5 ?h6 ?h7 ?h8 ?h9 ?h10 ?h11 ?h12 ?h13 ?h14 ?h15 ?h16 ?h17 ?h18 ?h19 ?h20 ?h21 ?h22 ?h23 ?h24 ?h25 ?h26 ?h27 ?h28 ?h29 ?h30
  case h0 => exact rfl
  case h1 => exact rfl
  case h2 => exact rfl
  case h3 => exact rfl
  case h4 => exact rfl
  case h5 => exact rfl
  case h6 => exact rfl
  case h7 => exact rfl
  case h8 => exact rfl
  case h9 => exact rfl
  case h10 => exact rfl
  case h11 => exact rfl
  case h12 => exact rfl
  case h13 => exact rfl
  case h14 => exact rfl
  case h15 => exact rfl
  case h16 => exact rfl
  case h17 => exact rfl
  case h18 => exact rfl
  case h19 => exact rfl
  case h20 => exact rfl
  case h21 => exact rfl
  case h22 => exact rfl
  case h23 => exact rfl
  case h24 => exact rfl
  case h25 => exact rfl
  case h26 => exact rfl
  case h27 => exact rfl
  case h28 => exact rfl
  case h29 => exact rfl
  case h30 => exact rfl
  case f =>
  intro p0 b0 s0 p1 b1 s1 p2 b2 s2 p3 b3 s3 p4 b4 s4 p5 b5 s5 p6 b6 s6 p7 b7 s7 p8 b8 s8 p9 b9 s9 p10 b10 s10 p11 b11 s11 p12 b12 s12 p13 b13 s13 p14 b14 s14 p15 b15 s15 p16 b16 s16 p17 b17 s17 p18 b18 s18 p19 b19 s19 p20 b20 s20 p21 b21 s21 p22 b22 s22 p23 b23 s23 p24 b24 s24 p25 b25 s25 p26 b26 s26 p27 b27 s27 p28 b28 s28 p29 b29 s29 p30 b30 s30 _ _ _ _ _ _ _ _ _ _ _ _ _ _ _ _ _ _ _ _ _ _ _ _ _ _ _ _ _ _ _
  exact fun P =>
    ((nat_lit 2 : Nat), ({ cls := PySem.Value.none, data := PySem.Data.dict #[{ hash := PySem.PyData.keyHash P (PySem.Str.ofString "type.__subclasses__.Exception.0"), key := PySem.Value.str (PySem.Str.ofString "type.__subclasses__.Exception.0") 214, val := PySem.Value.int 31 0 }, { hash := PySem.PyData.keyHash P (PySem.Str.ofString "type.__subclasses__.Exception.n"), key := PySem.Value.str (PySem.Str.ofString "type.__subclasses__.Exception.n") 215, val := PySem.Value.int 1 0 }] 2 } : Obj)) ::
    ((nat_lit 3 : Nat), ({ cls := PySem.Value.type "dict", data := PySem.Data.dict #[{ hash := PySem.PyData.keyHash P (PySem.Str.ofString "__name__"), key := PySem.Value.str (PySem.Str.ofString "__name__") 165, val := PySem.Value.str (PySem.Str.ofString "law_xm0976_01") 388 }, { hash := PySem.PyData.keyHash P (PySem.Str.ofString "__doc__"), key := PySem.Value.str (PySem.Str.ofString "__doc__") 166, val := PySem.Value.none }, { hash := PySem.PyData.keyHash P (PySem.Str.ofString "__package__"), key := PySem.Value.str (PySem.Str.ofString "__package__") 167, val := PySem.Value.none }, { hash := PySem.PyData.keyHash P (PySem.Str.ofString "__loader__"), key := PySem.Value.str (PySem.Str.ofString "__loader__") 168, val := PySem.Value.builtin "__main__.__loader__#opaque" }, { hash := PySem.PyData.keyHash P (PySem.Str.ofString "__spec__"), key := PySem.Value.str (PySem.Str.ofString "__spec__") 169, val := PySem.Value.none }, { hash := PySem.PyData.keyHash P (PySem.Str.ofString "__annotations__"), key := PySem.Value.str (PySem.Str.ofString "__annotations__") 170, val := PySem.Value.ref 6 }, { hash := PySem.PyData.keyHash P (PySem.Str.ofString "__builtins__"), key := PySem.Value.str (PySem.Str.ofString "__builtins__") 171, val := PySem.Value.ref 4 }, { hash := PySem.PyData.keyHash P (PySem.Str.ofString "__file__"), key := PySem.Value.str (PySem.Str.ofString "__file__") 173, val := PySem.Value.str (PySem.Str.ofString "/claim/cut.py") 172 }, { hash := PySem.PyData.keyHash P (PySem.Str.ofString "__cached__"), key := PySem.Value.str (PySem.Str.ofString "__cached__") 174, val := PySem.Value.none }, { hash := PySem.PyData.keyHash P (PySem.Str.ofString "SwitchError"), key := PySem.Value.str (PySem.Str.ofString "SwitchError") 217, val := PySem.Value.ref 31 }, { hash := PySem.PyData.keyHash P (PySem.Str.ofString "SizeError"), key := PySem.Value.str (PySem.Str.ofString "SizeError") 233, val := PySem.Value.ref 44 }, { hash := PySem.PyData.keyHash P (PySem.Str.ofString "number_octets"), key := PySem.Value.str (PySem.Str.ofString "number_octets") 241, val := PySem.Value.ref 51 }, { hash := PySem.PyData.keyHash P (PySem.Str.ofString "octets_number"), key := PySem.Value.str (PySem.Str.ofString "octets_number") 250, val := PySem.Value.ref 58 }, { hash := PySem.PyData.keyHash P (PySem.Str.ofString "bridge_octets"), key := PySem.Value.str (PySem.Str.ofString "bridge_octets") 257, val := PySem.Value.ref 65 }, { hash := PySem.PyData.keyHash P (PySem.Str.ofString "read_bridge"), key := PySem.Value.str (PySem.Str.ofString "read_bridge") 264, val := PySem.Value.ref 72 }, { hash := PySem.PyData.keyHash P (PySem.Str.ofString "MOST_INSTANCE"), key := PySem.Value.str (PySem.Str.ofString "MOST_INSTANCE") 268, val := PySem.Value.int 4094 267 }, { hash := PySem.PyData.keyHash P (PySem.Str.ofString "TREE_ROLES"), key := PySem.Value.str (PySem.Str.ofString "TREE_ROLES") 273, val := PySem.Value.ref 73 }, { hash := PySem.PyData.keyHash P (PySem.Str.ofString "TreeRow"), key := PySem.Value.str (PySem.Str.ofString "TreeRow") 332, val := PySem.Value.ref 102 }, { hash := PySem.PyData.keyHash P (PySem.Str.ofString "FLAG_BITS"), key := PySem.Value.str (PySem.Str.ofString "FLAG_BITS") 343, val := PySem.Value.ref 112 }, { hash := PySem.PyData.keyHash P (PySem.Str.ofString "check_row"), key := PySem.Value.str (PySem.Str.ofString "check_row") 350, val := PySem.Value.ref 119 }, { hash := PySem.PyData.keyHash P (PySem.Str.ofString "row_octets"), key := PySem.Value.str (PySem.Str.ofString "row_octets") 356, val := PySem.Value.ref 124 }, { hash := PySem.PyData.keyHash P (PySem.Str.ofString "read_row"), key := PySem.Value.str (PySem.Str.ofString "read_row") 362, val := PySem.Value.ref 129 }, { hash := PySem.PyData.keyHash P (PySem.Str.ofString "with_teller"), key := PySem.Value.str (PySem.Str.ofString "with_teller") 371, val := PySem.Value.ref 136 }, { hash := PySem.PyData.keyHash P (PySem.Str.ofString "is_from_same_port"), key := PySem.Value.str (PySem.Str.ofString "is_from_same_port") 379, val := PySem.Value.ref 143 }, { hash := PySem.PyData.keyHash P (PySem.Str.ofString "takes_over"), key := PySem.Value.str (PySem.Str.ofString "takes_over") 387, val := PySem.Value.ref 150 }, { hash := PySem.PyData.keyHash P (PySem.Str.ofString "_law_pool"), key := PySem.Value.str (PySem.Str.ofString "_law_pool") 400, val := PySem.Value.ref 157 }, { hash := PySem.PyData.keyHash P (PySem.Str.ofString "_law_take"), key := PySem.Value.str (PySem.Str.ofString "_law_take") 409, val := PySem.Value.ref 164 }, { hash := PySem.PyData.keyHash P (PySem.Str.ofString "_law_one"), key := PySem.Value.str (PySem.Str.ofString "_law_one") 417, val := PySem.Value.ref 171 }, { hash := PySem.PyData.keyHash P (PySem.Str.ofString "_law_names"), key := PySem.Value.str (PySem.Str.ofString "_law_names") 423, val := PySem.Value.ref 178 }, { hash := PySem.PyData.keyHash P (PySem.Str.ofString "_law_roles"), key := PySem.Value.str (PySem.Str.ofString "_law_roles") 429, val := PySem.Value.ref 185 }, { hash := PySem.PyData.keyHash P (PySem.Str.ofString "_law_big"), key := PySem.Value.str (PySem.Str.ofString "_law_big") 435, val := PySem.Value.ref 190 }, { hash := PySem.PyData.keyHash P (PySem.Str.ofString "_law_number"), key := PySem.Value.str (PySem.Str.ofString "_law_number") 441, val := PySem.Value.ref 195 }, { hash := PySem.PyData.keyHash P (PySem.Str.ofString "_law_fields"), key := PySem.Value.str (PySem.Str.ofString "_law_fields") 456, val := PySem.Value.ref 202 }, { hash := PySem.PyData.keyHash P (PySem.Str.ofString "_law_is_row"), key := PySem.Value.str (PySem.Str.ofString "_law_is_row") 470, val := PySem.Value.ref 209 }, { hash := PySem.PyData.keyHash P (PySem.Str.ofString "_law_has_room"), key := PySem.Value.str (PySem.Str.ofString "_law_has_room") 476, val := PySem.Value.ref 214 }, { hash := PySem.PyData.keyHash P (PySem.Str.ofString "_law_laid"), key := PySem.Value.str (PySem.Str.ofString "_law_laid") 495, val := PySem.Value.ref 221 }, { hash := PySem.PyData.keyHash P (PySem.Str.ofString "_law_told"), key := PySem.Value.str (PySem.Str.ofString "_law_told") 501, val := PySem.Value.ref 226 }, { hash := PySem.PyData.keyHash P (PySem.Str.ofString "_law_is_refused"), key := PySem.Value.str (PySem.Str.ofString "_law_is_refused") 508, val := PySem.Value.ref 233 }, { hash := PySem.PyData.keyHash P (PySem.Str.ofString "_law_row_right"), key := PySem.Value.str (PySem.Str.ofString "_law_row_right") 514, val := PySem.Value.ref 238 }, { hash := PySem.PyData.keyHash P (PySem.Str.ofString "_law_vector"), key := PySem.Value.str (PySem.Str.ofString "_law_vector") 525, val := PySem.Value.ref 245 }, { hash := PySem.PyData.keyHash P (PySem.Str.ofString "_law_vectors_right"), key := PySem.Value.str (PySem.Str.ofString "_law_vectors_right") 531, val := PySem.Value.ref 250 }, { hash := PySem.PyData.keyHash P (PySem.Str.ofString "law"), key := PySem.Value.str (PySem.Str.ofString "law") 537, val := PySem.Value.ref 255 }] 42 } : Obj)) ::
    ((nat_lit 15 : Nat), ({ cls := PySem.Value.type "tuple", data := PySem.Data.seq #[PySem.Value.type "Exception"] } : Obj)) ::
    ((nat_lit 22 : Nat), ({ cls := PySem.Value.type "tuple", data := PySem.Data.seq #[] } : Obj)) ::
    ((nat_lit 24 : Nat), ({ cls := PySem.Value.type "tuple", data := PySem.Data.seq #[PySem.Value.str (PySem.Str.ofString "self") 204, PySem.Value.str (PySem.Str.ofString "message") 205] } : Obj)) ::
    ((nat_lit 25 : Nat), ({ cls := PySem.Value.type "tuple", data := PySem.Data.seq #[] } : Obj)) ::
    ((nat_lit 27 : Nat), ({ cls := PySem.Value.type "code", data := PySem.Data.fields #[PySem.Value.str (PySem.Str.ofString "__init__") 201, PySem.Value.str (PySem.Str.ofString "SwitchError.__init__") 202, PySem.Value.str (PySem.Str.ofString "/claim/cut.py") 203, PySem.Value.int 4 0, PySem.Value.int 2 0, PySem.Value.int 0 0, PySem.Value.int 0 0, PySem.Value.int 3 0, PySem.Value.ref 22, PySem.Value.bool Bool.true, PySem.Value.int 181 0, PySem.Value.ref 23, PySem.Value.none, PySem.Value.ref 24, PySem.Value.ref 25, PySem.Value.ref 26, PySem.Value.int 206 0, PySem.Value.int 4 0, PySem.Value.str (PySem.Str.ofString "/claim/cut.py") 207] } : Obj)) ::
    ((nat_lit 28 : Nat), ({ cls := PySem.Value.type "function", data := PySem.Data.func { name := PySem.Str.ofString "__init__", qualname := PySem.Str.ofString "SwitchError.__init__", params := p0, body := PySem.FuncBody.stmts b0, scope := s0, globals := 3, closure := [], defaults := PySem.Value.none, kwdefaults := PySem.Value.none, pyModule := PySem.Value.str (PySem.Str.ofString "switchloom.errors") 187, code := PySem.Value.ref 27 } } : Obj)) ::
    ((nat_lit 29 : Nat), ({ cls := PySem.Value.type "tuple", data := PySem.Data.seq #[PySem.Value.str (PySem.Str.ofString "message") 209] } : Obj)) ::
    ((nat_lit 30 : Nat), ({ cls := PySem.Value.type "dict", data := PySem.Data.dict #[{ hash := PySem.PyData.keyHash P (PySem.Str.ofString "__module__"), key := PySem.Value.str (PySem.Str.ofString "__module__") 196, val := PySem.Value.str (PySem.Str.ofString "switchloom.errors") 187 }, { hash := PySem.PyData.keyHash P (PySem.Str.ofString "__firstlineno__"), key := PySem.Value.str (PySem.Str.ofString "__firstlineno__") 200, val := PySem.Value.int 2 199 }, { hash := PySem.PyData.keyHash P (PySem.Str.ofString "__init__"), key := PySem.Value.str (PySem.Str.ofString "__init__") 208, val := PySem.Value.ref 28 }, { hash := PySem.PyData.keyHash P (PySem.Str.ofString "__static_attributes__"), key := PySem.Value.str (PySem.Str.ofString "__static_attributes__") 210, val := PySem.Value.ref 29 }, { hash := PySem.PyData.keyHash P (PySem.Str.ofString "__weakref__"), key := PySem.Value.str (PySem.Str.ofString "__weakref__") 212, val := PySem.Value.ref 32 }, { hash := PySem.PyData.keyHash P (PySem.Str.ofString "__doc__"), key := PySem.Value.str (PySem.Str.ofString "__doc__") 213, val := PySem.Value.none }] 3 } : Obj)) ::
    ((nat_lit 31 : Nat), ({ cls := PySem.Value.type "type", data := PySem.Data.cls { name := PySem.Str.ofString "SwitchError", bases := [PySem.Value.type "Exception"], mro := [PySem.Value.ref 31, PySem.Value.type "Exception", PySem.Value.type "BaseException", PySem.Value.type "object"], ns := 30, qualname := PySem.Str.ofString "SwitchError", subclasses := [PySem.Value.ref 44] }, slots := #[Option.some (PySem.Value.ref 15), Option.none, Option.some (PySem.Value.str (PySem.Str.ofString "SwitchError") 189), Option.some (PySem.Value.str (PySem.Str.ofString "SwitchError") 197), Option.some (PySem.Value.builtin "Exception.__new__"), Option.some (PySem.Value.bool Bool.true)] } : Obj)) ::
    ((nat_lit 32 : Nat), ({ cls := PySem.Value.type "getset_descriptor", data := PySem.Data.fields #[PySem.Value.str (PySem.Str.ofString "__weakref__") 211, PySem.Value.ref 31, PySem.Value.builtin "ExceptionGroup.__weakref__", PySem.Value.none] } : Obj)) ::
    ((nat_lit 35 : Nat), ({ cls := PySem.Value.type "tuple", data := PySem.Data.seq #[PySem.Value.ref 31] } : Obj)) ::
    ((nat_lit 42 : Nat), ({ cls := PySem.Value.type "tuple", data := PySem.Data.seq #[] } : Obj)) ::
    ((nat_lit 43 : Nat), ({ cls := PySem.Value.type "dict", data := PySem.Data.dict #[{ hash := PySem.PyData.keyHash P (PySem.Str.ofString "__module__"), key := PySem.Value.str (PySem.Str.ofString "__module__") 225, val := PySem.Value.str (PySem.Str.ofString "switchloom.errors") 187 }, { hash := PySem.PyData.keyHash P (PySem.Str.ofString "__firstlineno__"), key := PySem.Value.str (PySem.Str.ofString "__firstlineno__") 229, val := PySem.Value.int 7 228 }, { hash := PySem.PyData.keyHash P (PySem.Str.ofString "__static_attributes__"), key := PySem.Value.str (PySem.Str.ofString "__static_attributes__") 230, val := PySem.Value.ref 42 }, { hash := PySem.PyData.keyHash P (PySem.Str.ofString "__doc__"), key := PySem.Value.str (PySem.Str.ofString "__doc__") 231, val := PySem.Value.none }] 2 } : Obj)) ::
    ((nat_lit 44 : Nat), ({ cls := PySem.Value.type "type", data := PySem.Data.cls { name := PySem.Str.ofString "SizeError", bases := [PySem.Value.ref 31], mro := [PySem.Value.ref 44, PySem.Value.ref 31, PySem.Value.type "Exception", PySem.Value.type "BaseException", PySem.Value.type "object"], ns := 43, qualname := PySem.Str.ofString "SizeError" }, slots := #[Option.some (PySem.Value.ref 35), Option.none, Option.some (PySem.Value.str (PySem.Str.ofString "SizeError") 218), Option.some (PySem.Value.str (PySem.Str.ofString "SizeError") 226), Option.some (PySem.Value.builtin "Exception.__new__"), Option.some (PySem.Value.bool Bool.true)] } : Obj)) ::
    ((nat_lit 47 : Nat), ({ cls := PySem.Value.type "tuple", data := PySem.Data.seq #[] } : Obj)) ::
    ((nat_lit 50 : Nat), ({ cls := PySem.Value.type "code", data := PySem.Data.fields #[PySem.Value.str (PySem.Str.ofString "number_octets") 236, PySem.Value.str (PySem.Str.ofString "number_octets") 237, PySem.Value.str (PySem.Str.ofString "/claim/cut.py") 238, PySem.Value.int 10 0, PySem.Value.int 2 0, PySem.Value.int 0 0, PySem.Value.int 0 0, PySem.Value.int 3 0, PySem.Value.ref 47, PySem.Value.bool Bool.true, PySem.Value.int 181 0, PySem.Value.ref 48, PySem.Value.none, PySem.Value.none, PySem.Value.none, PySem.Value.ref 49, PySem.Value.int 239 0, PySem.Value.int 10 0, PySem.Value.str (PySem.Str.ofString "/claim/cut.py") 240] } : Obj)) ::
    ((nat_lit 51 : Nat), ({ cls := PySem.Value.type "function", data := PySem.Data.func { name := PySem.Str.ofString "number_octets", qualname := PySem.Str.ofString "number_octets", params := p1, body := PySem.FuncBody.stmts b1, scope := s1, globals := 3, closure := [], defaults := PySem.Value.none, kwdefaults := PySem.Value.none, pyModule := PySem.Value.str (PySem.Str.ofString "switchloom.bpdus") 234, code := PySem.Value.ref 50 } } : Obj)) ::
    ((nat_lit 52 : Nat), ({ cls := PySem.Value.type "tuple", data := PySem.Data.seq #[] } : Obj)) ::
    ((nat_lit 54 : Nat), ({ cls := PySem.Value.type "tuple", data := PySem.Data.seq #[PySem.Value.str (PySem.Str.ofString "octets") 245, PySem.Value.str (PySem.Str.ofString "found") 246, PySem.Value.str (PySem.Str.ofString "octet") 247] } : Obj)) ::
    ((nat_lit 55 : Nat), ({ cls := PySem.Value.type "tuple", data := PySem.Data.seq #[] } : Obj)) ::
    ((nat_lit 57 : Nat), ({ cls := PySem.Value.type "code", data := PySem.Data.fields #[PySem.Value.str (PySem.Str.ofString "octets_number") 242, PySem.Value.str (PySem.Str.ofString "octets_number") 243, PySem.Value.str (PySem.Str.ofString "/claim/cut.py") 244, PySem.Value.int 14 0, PySem.Value.int 1 0, PySem.Value.int 0 0, PySem.Value.int 0 0, PySem.Value.int 3 0, PySem.Value.ref 52, PySem.Value.bool Bool.true, PySem.Value.int 181 0, PySem.Value.ref 53, PySem.Value.none, PySem.Value.ref 54, PySem.Value.ref 55, PySem.Value.ref 56, PySem.Value.int 248 0, PySem.Value.int 14 0, PySem.Value.str (PySem.Str.ofString "/claim/cut.py") 249] } : Obj)) ::
    ((nat_lit 58 : Nat), ({ cls := PySem.Value.type "function", data := PySem.Data.func { name := PySem.Str.ofString "octets_number", qualname := PySem.Str.ofString "octets_number", params := p2, body := PySem.FuncBody.stmts b2, scope := s2, globals := 3, closure := [], defaults := PySem.Value.none, kwdefaults := PySem.Value.none, pyModule := PySem.Value.str (PySem.Str.ofString "switchloom.bpdus") 234, code := PySem.Value.ref 57 } } : Obj)) ::
    ((nat_lit 59 : Nat), ({ cls := PySem.Value.type "tuple", data := PySem.Data.seq #[] } : Obj)) ::
    ((nat_lit 61 : Nat), ({ cls := PySem.Value.type "tuple", data := PySem.Data.seq #[PySem.Value.str (PySem.Str.ofString "bridge") 254] } : Obj)) ::
    ((nat_lit 62 : Nat), ({ cls := PySem.Value.type "tuple", data := PySem.Data.seq #[] } : Obj)) ::
    ((nat_lit 64 : Nat), ({ cls := PySem.Value.type "code", data := PySem.Data.fields #[PySem.Value.str (PySem.Str.ofString "bridge_octets") 251, PySem.Value.str (PySem.Str.ofString "bridge_octets") 252, PySem.Value.str (PySem.Str.ofString "/claim/cut.py") 253, PySem.Value.int 19 0, PySem.Value.int 1 0, PySem.Value.int 0 0, PySem.Value.int 0 0, PySem.Value.int 3 0, PySem.Value.ref 59, PySem.Value.bool Bool.true, PySem.Value.int 181 0, PySem.Value.ref 60, PySem.Value.none, PySem.Value.ref 61, PySem.Value.ref 62, PySem.Value.ref 63, PySem.Value.int 255 0, PySem.Value.int 19 0, PySem.Value.str (PySem.Str.ofString "/claim/cut.py") 256] } : Obj)) ::
    ((nat_lit 65 : Nat), ({ cls := PySem.Value.type "function", data := PySem.Data.func { name := PySem.Str.ofString "bridge_octets", qualname := PySem.Str.ofString "bridge_octets", params := p3, body := PySem.FuncBody.stmts b3, scope := s3, globals := 3, closure := [], defaults := PySem.Value.none, kwdefaults := PySem.Value.none, pyModule := PySem.Value.str (PySem.Str.ofString "switchloom.bpdus") 234, code := PySem.Value.ref 64 } } : Obj)) ::
    ((nat_lit 66 : Nat), ({ cls := PySem.Value.type "tuple", data := PySem.Data.seq #[] } : Obj)) ::
    ((nat_lit 68 : Nat), ({ cls := PySem.Value.type "tuple", data := PySem.Data.seq #[PySem.Value.str (PySem.Str.ofString "octets") 261] } : Obj)) ::
    ((nat_lit 69 : Nat), ({ cls := PySem.Value.type "tuple", data := PySem.Data.seq #[] } : Obj)) ::
    ((nat_lit 71 : Nat), ({ cls := PySem.Value.type "code", data := PySem.Data.fields #[PySem.Value.str (PySem.Str.ofString "read_bridge") 258, PySem.Value.str (PySem.Str.ofString "read_bridge") 259, PySem.Value.str (PySem.Str.ofString "/claim/cut.py") 260, PySem.Value.int 21 0, PySem.Value.int 1 0, PySem.Value.int 0 0, PySem.Value.int 0 0, PySem.Value.int 3 0, PySem.Value.ref 66, PySem.Value.bool Bool.true, PySem.Value.int 181 0, PySem.Value.ref 67, PySem.Value.none, PySem.Value.ref 68, PySem.Value.ref 69, PySem.Value.ref 70, PySem.Value.int 262 0, PySem.Value.int 21 0, PySem.Value.str (PySem.Str.ofString "/claim/cut.py") 263] } : Obj)) ::
    ((nat_lit 72 : Nat), ({ cls := PySem.Value.type "function", data := PySem.Data.func { name := PySem.Str.ofString "read_bridge", qualname := PySem.Str.ofString "read_bridge", params := p4, body := PySem.FuncBody.stmts b4, scope := s4, globals := 3, closure := [], defaults := PySem.Value.none, kwdefaults := PySem.Value.none, pyModule := PySem.Value.str (PySem.Str.ofString "switchloom.bpdus") 234, code := PySem.Value.ref 71 } } : Obj)) ::
    ((nat_lit 73 : Nat), ({ cls := PySem.Value.type "tuple", data := PySem.Data.seq #[PySem.Value.str (PySem.Str.ofString "master") 269, PySem.Value.str (PySem.Str.ofString "alternate") 270, PySem.Value.str (PySem.Str.ofString "root") 271, PySem.Value.str (PySem.Str.ofString "designated") 272] } : Obj)) ::
    ((nat_lit 81 : Nat), ({ cls := PySem.Value.type "tuple", data := PySem.Data.seq #[] } : Obj)) ::
    ((nat_lit 83 : Nat), ({ cls := PySem.Value.type "tuple", data := PySem.Data.seq #[PySem.Value.str (PySem.Str.ofString "self") 289, PySem.Value.str (PySem.Str.ofString "instance") 290, PySem.Value.str (PySem.Str.ofString "regional") 291, PySem.Value.str (PySem.Str.ofString "cost") 292, PySem.Value.str (PySem.Str.ofString "bridge_priority") 293, PySem.Value.str (PySem.Str.ofString "port_priority") 294, PySem.Value.str (PySem.Str.ofString "hops") 295, PySem.Value.str (PySem.Str.ofString "role") 296, PySem.Value.str (PySem.Str.ofString "flags") 297] } : Obj)) ::
    ((nat_lit 84 : Nat), ({ cls := PySem.Value.type "tuple", data := PySem.Data.seq #[] } : Obj)) ::
    ((nat_lit 86 : Nat), ({ cls := PySem.Value.type "code", data := PySem.Data.fields #[PySem.Value.str (PySem.Str.ofString "__init__") 286, PySem.Value.str (PySem.Str.ofString "TreeRow.__init__") 287, PySem.Value.str (PySem.Str.ofString "/claim/cut.py") 288, PySem.Value.int 28 0, PySem.Value.int 9 0, PySem.Value.int 0 0, PySem.Value.int 0 0, PySem.Value.int 3 0, PySem.Value.ref 81, PySem.Value.bool Bool.true, PySem.Value.int 181 0, PySem.Value.ref 82, PySem.Value.none, PySem.Value.ref 83, PySem.Value.ref 84, PySem.Value.ref 85, PySem.Value.int 298 0, PySem.Value.int 28 0, PySem.Value.str (PySem.Str.ofString "/claim/cut.py") 299] } : Obj)) ::
    ((nat_lit 87 : Nat), ({ cls := PySem.Value.type "function", data := PySem.Data.func { name := PySem.Str.ofString "__init__", qualname := PySem.Str.ofString "TreeRow.__init__", params := p5, body := PySem.FuncBody.stmts b5, scope := s5, globals := 3, closure := [], defaults := PySem.Value.none, kwdefaults := PySem.Value.none, pyModule := PySem.Value.str (PySem.Str.ofString "switchloom.mst_vectors") 265, code := PySem.Value.ref 86 } } : Obj)) ::
    ((nat_lit 88 : Nat), ({ cls := PySem.Value.type "tuple", data := PySem.Data.seq #[] } : Obj)) ::
    ((nat_lit 90 : Nat), ({ cls := PySem.Value.type "tuple", data := PySem.Data.seq #[PySem.Value.str (PySem.Str.ofString "self") 304, PySem.Value.str (PySem.Str.ofString "mac") 305, PySem.Value.str (PySem.Str.ofString "number") 306, PySem.Value.str (PySem.Str.ofString "bridge") 307] } : Obj)) ::
    ((nat_lit 91 : Nat), ({ cls := PySem.Value.type "tuple", data := PySem.Data.seq #[] } : Obj)) ::
    ((nat_lit 93 : Nat), ({ cls := PySem.Value.type "code", data := PySem.Data.fields #[PySem.Value.str (PySem.Str.ofString "vector") 301, PySem.Value.str (PySem.Str.ofString "TreeRow.vector") 302, PySem.Value.str (PySem.Str.ofString "/claim/cut.py") 303, PySem.Value.int 38 0, PySem.Value.int 3 0, PySem.Value.int 0 0, PySem.Value.int 0 0, PySem.Value.int 3 0, PySem.Value.ref 88, PySem.Value.bool Bool.true, PySem.Value.int 181 0, PySem.Value.ref 89, PySem.Value.none, PySem.Value.ref 90, PySem.Value.ref 91, PySem.Value.ref 92, PySem.Value.int 308 0, PySem.Value.int 38 0, PySem.Value.str (PySem.Str.ofString "/claim/cut.py") 309] } : Obj)) ::
    ((nat_lit 94 : Nat), ({ cls := PySem.Value.type "function", data := PySem.Data.func { name := PySem.Str.ofString "vector", qualname := PySem.Str.ofString "TreeRow.vector", params := p6, body := PySem.FuncBody.stmts b6, scope := s6, globals := 3, closure := [], defaults := PySem.Value.none, kwdefaults := PySem.Value.none, pyModule := PySem.Value.str (PySem.Str.ofString "switchloom.mst_vectors") 265, code := PySem.Value.ref 93 } } : Obj)) ::
    ((nat_lit 95 : Nat), ({ cls := PySem.Value.type "tuple", data := PySem.Data.seq #[] } : Obj)) ::
    ((nat_lit 98 : Nat), ({ cls := PySem.Value.type "code", data := PySem.Data.fields #[PySem.Value.str (PySem.Str.ofString "told") 311, PySem.Value.str (PySem.Str.ofString "TreeRow.told") 312, PySem.Value.str (PySem.Str.ofString "/claim/cut.py") 313, PySem.Value.int 42 0, PySem.Value.int 1 0, PySem.Value.int 0 0, PySem.Value.int 0 0, PySem.Value.int 3 0, PySem.Value.ref 95, PySem.Value.bool Bool.true, PySem.Value.int 181 0, PySem.Value.ref 96, PySem.Value.none, PySem.Value.none, PySem.Value.none, PySem.Value.ref 97, PySem.Value.int 314 0, PySem.Value.int 42 0, PySem.Value.str (PySem.Str.ofString "/claim/cut.py") 315] } : Obj)) ::
    ((nat_lit 99 : Nat), ({ cls := PySem.Value.type "function", data := PySem.Data.func { name := PySem.Str.ofString "told", qualname := PySem.Str.ofString "TreeRow.told", params := p7, body := PySem.FuncBody.stmts b7, scope := s7, globals := 3, closure := [], defaults := PySem.Value.none, kwdefaults := PySem.Value.none, pyModule := PySem.Value.str (PySem.Str.ofString "switchloom.mst_vectors") 265, code := PySem.Value.ref 98 } } : Obj)) ::
    ((nat_lit 100 : Nat), ({ cls := PySem.Value.type "tuple", data := PySem.Data.seq #[PySem.Value.str (PySem.Str.ofString "bridge_priority") 317, PySem.Value.str (PySem.Str.ofString "cost") 318, PySem.Value.str (PySem.Str.ofString "flags") 319, PySem.Value.str (PySem.Str.ofString "hops") 320, PySem.Value.str (PySem.Str.ofString "instance") 321, PySem.Value.str (PySem.Str.ofString "port_priority") 322, PySem.Value.str (PySem.Str.ofString "regional") 323, PySem.Value.str (PySem.Str.ofString "role") 324] } : Obj)) ::
    ((nat_lit 101 : Nat), ({ cls := PySem.Value.type "dict", data := PySem.Data.dict #[{ hash := PySem.PyData.keyHash P (PySem.Str.ofString "__module__"), key := PySem.Value.str (PySem.Str.ofString "__module__") 281, val := PySem.Value.str (PySem.Str.ofString "switchloom.mst_vectors") 265 }, { hash := PySem.PyData.keyHash P (PySem.Str.ofString "__firstlineno__"), key := PySem.Value.str (PySem.Str.ofString "__firstlineno__") 285, val := PySem.Value.int 26 284 }, { hash := PySem.PyData.keyHash P (PySem.Str.ofString "__init__"), key := PySem.Value.str (PySem.Str.ofString "__init__") 300, val := PySem.Value.ref 87 }, { hash := PySem.PyData.keyHash P (PySem.Str.ofString "vector"), key := PySem.Value.str (PySem.Str.ofString "vector") 310, val := PySem.Value.ref 94 }, { hash := PySem.PyData.keyHash P (PySem.Str.ofString "told"), key := PySem.Value.str (PySem.Str.ofString "told") 316, val := PySem.Value.ref 99 }, { hash := PySem.PyData.keyHash P (PySem.Str.ofString "__static_attributes__"), key := PySem.Value.str (PySem.Str.ofString "__static_attributes__") 325, val := PySem.Value.ref 100 }, { hash := PySem.PyData.keyHash P (PySem.Str.ofString "__dict__"), key := PySem.Value.str (PySem.Str.ofString "__dict__") 327, val := PySem.Value.ref 103 }, { hash := PySem.PyData.keyHash P (PySem.Str.ofString "__weakref__"), key := PySem.Value.str (PySem.Str.ofString "__weakref__") 329, val := PySem.Value.ref 104 }, { hash := PySem.PyData.keyHash P (PySem.Str.ofString "__doc__"), key := PySem.Value.str (PySem.Str.ofString "__doc__") 330, val := PySem.Value.none }] 4 } : Obj)) ::
    ((nat_lit 102 : Nat), ({ cls := PySem.Value.type "type", data := PySem.Data.cls { name := PySem.Str.ofString "TreeRow", bases := [PySem.Value.type "object"], mro := [PySem.Value.ref 102, PySem.Value.type "object"], ns := 101, qualname := PySem.Str.ofString "TreeRow" }, slots := #[Option.none, Option.none, Option.some (PySem.Value.str (PySem.Str.ofString "TreeRow") 274), Option.some (PySem.Value.str (PySem.Str.ofString "TreeRow") 282), Option.some (PySem.Value.builtin "object.__new__"), Option.some (PySem.Value.bool Bool.true)] } : Obj)) ::
    ((nat_lit 103 : Nat), ({ cls := PySem.Value.type "getset_descriptor", data := PySem.Data.fields #[PySem.Value.str (PySem.Str.ofString "__dict__") 326, PySem.Value.ref 102, PySem.Value.builtin "function.__dict__", PySem.Value.builtin "function.__dict__#set"] } : Obj)) ::
    ((nat_lit 104 : Nat), ({ cls := PySem.Value.type "getset_descriptor", data := PySem.Data.fields #[PySem.Value.str (PySem.Str.ofString "__weakref__") 328, PySem.Value.ref 102, PySem.Value.builtin "ExceptionGroup.__weakref__", PySem.Value.none] } : Obj)) ::
    ((nat_lit 107 : Nat), ({ cls := PySem.Value.type "tuple", data := PySem.Data.seq #[PySem.Value.str (PySem.Str.ofString "change") 333, PySem.Value.int 1 334] } : Obj)) ::
    ((nat_lit 108 : Nat), ({ cls := PySem.Value.type "tuple", data := PySem.Data.seq #[PySem.Value.str (PySem.Str.ofString "proposal") 335, PySem.Value.int 2 336] } : Obj)) ::
    ((nat_lit 109 : Nat), ({ cls := PySem.Value.type "tuple", data := PySem.Data.seq #[PySem.Value.str (PySem.Str.ofString "learning") 337, PySem.Value.int 16 338] } : Obj)) ::
    ((nat_lit 110 : Nat), ({ cls := PySem.Value.type "tuple", data := PySem.Data.seq #[PySem.Value.str (PySem.Str.ofString "forwarding") 339, PySem.Value.int 32 340] } : Obj)) ::
    ((nat_lit 111 : Nat), ({ cls := PySem.Value.type "tuple", data := PySem.Data.seq #[PySem.Value.str (PySem.Str.ofString "agreement") 341, PySem.Value.int 64 342] } : Obj)) ::
    ((nat_lit 112 : Nat), ({ cls := PySem.Value.type "tuple", data := PySem.Data.seq #[PySem.Value.ref 107, PySem.Value.ref 108, PySem.Value.ref 109, PySem.Value.ref 110, PySem.Value.ref 111] } : Obj)) ::
    ((nat_lit 113 : Nat), ({ cls := PySem.Value.type "tuple", data := PySem.Data.seq #[] } : Obj)) ::
    ((nat_lit 115 : Nat), ({ cls := PySem.Value.type "tuple", data := PySem.Data.seq #[PySem.Value.str (PySem.Str.ofString "row") 347] } : Obj)) ::
    ((nat_lit 116 : Nat), ({ cls := PySem.Value.type "tuple", data := PySem.Data.seq #[] } : Obj)) ::
    ((nat_lit 118 : Nat), ({ cls := PySem.Value.type "code", data := PySem.Data.fields #[PySem.Value.str (PySem.Str.ofString "check_row") 344, PySem.Value.str (PySem.Str.ofString "check_row") 345, PySem.Value.str (PySem.Str.ofString "/claim/cut.py") 346, PySem.Value.int 46 0, PySem.Value.int 1 0, PySem.Value.int 0 0, PySem.Value.int 0 0, PySem.Value.int 3 0, PySem.Value.ref 113, PySem.Value.bool Bool.true, PySem.Value.int 181 0, PySem.Value.ref 114, PySem.Value.none, PySem.Value.ref 115, PySem.Value.ref 116, PySem.Value.ref 117, PySem.Value.int 348 0, PySem.Value.int 46 0, PySem.Value.str (PySem.Str.ofString "/claim/cut.py") 349] } : Obj)) ::
    ((nat_lit 119 : Nat), ({ cls := PySem.Value.type "function", data := PySem.Data.func { name := PySem.Str.ofString "check_row", qualname := PySem.Str.ofString "check_row", params := p8, body := PySem.FuncBody.stmts b8, scope := s8, globals := 3, closure := [], defaults := PySem.Value.none, kwdefaults := PySem.Value.none, pyModule := PySem.Value.str (PySem.Str.ofString "switchloom.mst_vectors") 265, code := PySem.Value.ref 118 } } : Obj)) ::
    ((nat_lit 120 : Nat), ({ cls := PySem.Value.type "tuple", data := PySem.Data.seq #[] } : Obj)) ::
    ((nat_lit 123 : Nat), ({ cls := PySem.Value.type "code", data := PySem.Data.fields #[PySem.Value.str (PySem.Str.ofString "row_octets") 351, PySem.Value.str (PySem.Str.ofString "row_octets") 352, PySem.Value.str (PySem.Str.ofString "/claim/cut.py") 353, PySem.Value.int 51 0, PySem.Value.int 1 0, PySem.Value.int 0 0, PySem.Value.int 0 0, PySem.Value.int 3 0, PySem.Value.ref 120, PySem.Value.bool Bool.true, PySem.Value.int 181 0, PySem.Value.ref 121, PySem.Value.none, PySem.Value.none, PySem.Value.none, PySem.Value.ref 122, PySem.Value.int 354 0, PySem.Value.int 51 0, PySem.Value.str (PySem.Str.ofString "/claim/cut.py") 355] } : Obj)) ::
    ((nat_lit 124 : Nat), ({ cls := PySem.Value.type "function", data := PySem.Data.func { name := PySem.Str.ofString "row_octets", qualname := PySem.Str.ofString "row_octets", params := p9, body := PySem.FuncBody.stmts b9, scope := s9, globals := 3, closure := [], defaults := PySem.Value.none, kwdefaults := PySem.Value.none, pyModule := PySem.Value.str (PySem.Str.ofString "switchloom.mst_vectors") 265, code := PySem.Value.ref 123 } } : Obj)) ::
    ((nat_lit 125 : Nat), ({ cls := PySem.Value.type "tuple", data := PySem.Data.seq #[] } : Obj)) ::
    ((nat_lit 128 : Nat), ({ cls := PySem.Value.type "code", data := PySem.Data.fields #[PySem.Value.str (PySem.Str.ofString "read_row") 357, PySem.Value.str (PySem.Str.ofString "read_row") 358, PySem.Value.str (PySem.Str.ofString "/claim/cut.py") 359, PySem.Value.int 58 0, PySem.Value.int 1 0, PySem.Value.int 0 0, PySem.Value.int 0 0, PySem.Value.int 3 0, PySem.Value.ref 125, PySem.Value.bool Bool.true, PySem.Value.int 181 0, PySem.Value.ref 126, PySem.Value.none, PySem.Value.none, PySem.Value.none, PySem.Value.ref 127, PySem.Value.int 360 0, PySem.Value.int 58 0, PySem.Value.str (PySem.Str.ofString "/claim/cut.py") 361] } : Obj)) ::
    ((nat_lit 129 : Nat), ({ cls := PySem.Value.type "function", data := PySem.Data.func { name := PySem.Str.ofString "read_row", qualname := PySem.Str.ofString "read_row", params := p10, body := PySem.FuncBody.stmts b10, scope := s10, globals := 3, closure := [], defaults := PySem.Value.none, kwdefaults := PySem.Value.none, pyModule := PySem.Value.str (PySem.Str.ofString "switchloom.mst_vectors") 265, code := PySem.Value.ref 128 } } : Obj)) ::
    ((nat_lit 130 : Nat), ({ cls := PySem.Value.type "tuple", data := PySem.Data.seq #[] } : Obj)) ::
    ((nat_lit 132 : Nat), ({ cls := PySem.Value.type "tuple", data := PySem.Data.seq #[PySem.Value.str (PySem.Str.ofString "vector") 366, PySem.Value.str (PySem.Str.ofString "bridge") 367, PySem.Value.str (PySem.Str.ofString "port_id") 368] } : Obj)) ::
    ((nat_lit 133 : Nat), ({ cls := PySem.Value.type "tuple", data := PySem.Data.seq #[] } : Obj)) ::
    ((nat_lit 135 : Nat), ({ cls := PySem.Value.type "code", data := PySem.Data.fields #[PySem.Value.str (PySem.Str.ofString "with_teller") 363, PySem.Value.str (PySem.Str.ofString "with_teller") 364, PySem.Value.str (PySem.Str.ofString "/claim/cut.py") 365, PySem.Value.int 64 0, PySem.Value.int 3 0, PySem.Value.int 0 0, PySem.Value.int 0 0, PySem.Value.int 3 0, PySem.Value.ref 130, PySem.Value.bool Bool.true, PySem.Value.int 181 0, PySem.Value.ref 131, PySem.Value.none, PySem.Value.ref 132, PySem.Value.ref 133, PySem.Value.ref 134, PySem.Value.int 369 0, PySem.Value.int 64 0, PySem.Value.str (PySem.Str.ofString "/claim/cut.py") 370] } : Obj)) ::
    ((nat_lit 136 : Nat), ({ cls := PySem.Value.type "function", data := PySem.Data.func { name := PySem.Str.ofString "with_teller", qualname := PySem.Str.ofString "with_teller", params := p11, body := PySem.FuncBody.stmts b11, scope := s11, globals := 3, closure := [], defaults := PySem.Value.none, kwdefaults := PySem.Value.none, pyModule := PySem.Value.str (PySem.Str.ofString "switchloom.mst_vectors") 265, code := PySem.Value.ref 135 } } : Obj)) ::
    ((nat_lit 137 : Nat), ({ cls := PySem.Value.type "tuple", data := PySem.Data.seq #[] } : Obj)) ::
    ((nat_lit 139 : Nat), ({ cls := PySem.Value.type "tuple", data := PySem.Data.seq #[PySem.Value.str (PySem.Str.ofString "one") 375, PySem.Value.str (PySem.Str.ofString "other") 376] } : Obj)) ::
    ((nat_lit 140 : Nat), ({ cls := PySem.Value.type "tuple", data := PySem.Data.seq #[] } : Obj)) ::
    ((nat_lit 142 : Nat), ({ cls := PySem.Value.type "code", data := PySem.Data.fields #[PySem.Value.str (PySem.Str.ofString "is_from_same_port") 372, PySem.Value.str (PySem.Str.ofString "is_from_same_port") 373, PySem.Value.str (PySem.Str.ofString "/claim/cut.py") 374, PySem.Value.int 66 0, PySem.Value.int 2 0, PySem.Value.int 0 0, PySem.Value.int 0 0, PySem.Value.int 3 0, PySem.Value.ref 137, PySem.Value.bool Bool.true, PySem.Value.int 181 0, PySem.Value.ref 138, PySem.Value.none, PySem.Value.ref 139, PySem.Value.ref 140, PySem.Value.ref 141, PySem.Value.int 377 0, PySem.Value.int 66 0, PySem.Value.str (PySem.Str.ofString "/claim/cut.py") 378] } : Obj)) ::
    ((nat_lit 143 : Nat), ({ cls := PySem.Value.type "function", data := PySem.Data.func { name := PySem.Str.ofString "is_from_same_port", qualname := PySem.Str.ofString "is_from_same_port", params := p12, body := PySem.FuncBody.stmts b12, scope := s12, globals := 3, closure := [], defaults := PySem.Value.none, kwdefaults := PySem.Value.none, pyModule := PySem.Value.str (PySem.Str.ofString "switchloom.mst_vectors") 265, code := PySem.Value.ref 142 } } : Obj)) ::
    ((nat_lit 144 : Nat), ({ cls := PySem.Value.type "tuple", data := PySem.Data.seq #[] } : Obj)) ::
    ((nat_lit 146 : Nat), ({ cls := PySem.Value.type "tuple", data := PySem.Data.seq #[PySem.Value.str (PySem.Str.ofString "told") 383, PySem.Value.str (PySem.Str.ofString "held") 384] } : Obj)) ::
    ((nat_lit 147 : Nat), ({ cls := PySem.Value.type "tuple", data := PySem.Data.seq #[] } : Obj)) ::
    ((nat_lit 149 : Nat), ({ cls := PySem.Value.type "code", data := PySem.Data.fields #[PySem.Value.str (PySem.Str.ofString "takes_over") 380, PySem.Value.str (PySem.Str.ofString "takes_over") 381, PySem.Value.str (PySem.Str.ofString "/claim/cut.py") 382, PySem.Value.int 68 0, PySem.Value.int 2 0, PySem.Value.int 0 0, PySem.Value.int 0 0, PySem.Value.int 3 0, PySem.Value.ref 144, PySem.Value.bool Bool.true, PySem.Value.int 181 0, PySem.Value.ref 145, PySem.Value.none, PySem.Value.ref 146, PySem.Value.ref 147, PySem.Value.ref 148, PySem.Value.int 385 0, PySem.Value.int 68 0, PySem.Value.str (PySem.Str.ofString "/claim/cut.py") 386] } : Obj)) ::
    ((nat_lit 150 : Nat), ({ cls := PySem.Value.type "function", data := PySem.Data.func { name := PySem.Str.ofString "takes_over", qualname := PySem.Str.ofString "takes_over", params := p13, body := PySem.FuncBody.stmts b13, scope := s13, globals := 3, closure := [], defaults := PySem.Value.none, kwdefaults := PySem.Value.none, pyModule := PySem.Value.str (PySem.Str.ofString "switchloom.mst_vectors") 265, code := PySem.Value.ref 149 } } : Obj)) ::
    ((nat_lit 151 : Nat), ({ cls := PySem.Value.type "tuple", data := PySem.Data.seq #[] } : Obj)) ::
    ((nat_lit 153 : Nat), ({ cls := PySem.Value.type "tuple", data := PySem.Data.seq #[PySem.Value.str (PySem.Str.ofString "script") 393, PySem.Value.str (PySem.Str.ofString "k") 394, PySem.Value.str (PySem.Str.ofString "cell") 395, PySem.Value.str (PySem.Str.ofString "great") 396, PySem.Value.str (PySem.Str.ofString "mixed") 397] } : Obj)) ::
    ((nat_lit 154 : Nat), ({ cls := PySem.Value.type "tuple", data := PySem.Data.seq #[] } : Obj)) ::
    ((nat_lit 156 : Nat), ({ cls := PySem.Value.type "code", data := PySem.Data.fields #[PySem.Value.str (PySem.Str.ofString "_law_pool") 390, PySem.Value.str (PySem.Str.ofString "_law_pool") 391, PySem.Value.str (PySem.Str.ofString "/claim/cut.py") 392, PySem.Value.int 71 0, PySem.Value.int 2 0, PySem.Value.int 0 0, PySem.Value.int 0 0, PySem.Value.int 3 0, PySem.Value.ref 151, PySem.Value.bool Bool.true, PySem.Value.int 181 0, PySem.Value.ref 152, PySem.Value.none, PySem.Value.ref 153, PySem.Value.ref 154, PySem.Value.ref 155, PySem.Value.int 398 0, PySem.Value.int 71 0, PySem.Value.str (PySem.Str.ofString "/claim/cut.py") 399] } : Obj)) ::
    ((nat_lit 157 : Nat), ({ cls := PySem.Value.type "function", data := PySem.Data.func { name := PySem.Str.ofString "_law_pool", qualname := PySem.Str.ofString "_law_pool", params := p14, body := PySem.FuncBody.stmts b14, scope := s14, globals := 3, closure := [], defaults := PySem.Value.none, kwdefaults := PySem.Value.none, pyModule := PySem.Value.str (PySem.Str.ofString "law_xm0976_01") 388, code := PySem.Value.ref 156 } } : Obj)) ::
    ((nat_lit 158 : Nat), ({ cls := PySem.Value.type "tuple", data := PySem.Data.seq #[] } : Obj)) ::
    ((nat_lit 160 : Nat), ({ cls := PySem.Value.type "tuple", data := PySem.Data.seq #[PySem.Value.str (PySem.Str.ofString "source") 404, PySem.Value.str (PySem.Str.ofString "top") 405, PySem.Value.str (PySem.Str.ofString "drawn") 406] } : Obj)) ::
    ((nat_lit 161 : Nat), ({ cls := PySem.Value.type "tuple", data := PySem.Data.seq #[] } : Obj)) ::
    ((nat_lit 163 : Nat), ({ cls := PySem.Value.type "code", data := PySem.Data.fields #[PySem.Value.str (PySem.Str.ofString "_law_take") 401, PySem.Value.str (PySem.Str.ofString "_law_take") 402, PySem.Value.str (PySem.Str.ofString "/claim/cut.py") 403, PySem.Value.int 76 0, PySem.Value.int 2 0, PySem.Value.int 0 0, PySem.Value.int 0 0, PySem.Value.int 3 0, PySem.Value.ref 158, PySem.Value.bool Bool.true, PySem.Value.int 181 0, PySem.Value.ref 159, PySem.Value.none, PySem.Value.ref 160, PySem.Value.ref 161, PySem.Value.ref 162, PySem.Value.int 407 0, PySem.Value.int 76 0, PySem.Value.str (PySem.Str.ofString "/claim/cut.py") 408] } : Obj)) ::
    ((nat_lit 164 : Nat), ({ cls := PySem.Value.type "function", data := PySem.Data.func { name := PySem.Str.ofString "_law_take", qualname := PySem.Str.ofString "_law_take", params := p15, body := PySem.FuncBody.stmts b15, scope := s15, globals := 3, closure := [], defaults := PySem.Value.none, kwdefaults := PySem.Value.none, pyModule := PySem.Value.str (PySem.Str.ofString "law_xm0976_01") 388, code := PySem.Value.ref 163 } } : Obj)) ::
    ((nat_lit 165 : Nat), ({ cls := PySem.Value.type "tuple", data := PySem.Data.seq #[] } : Obj)) ::
    ((nat_lit 167 : Nat), ({ cls := PySem.Value.type "tuple", data := PySem.Data.seq #[PySem.Value.str (PySem.Str.ofString "source") 413, PySem.Value.str (PySem.Str.ofString "things") 414] } : Obj)) ::
    ((nat_lit 168 : Nat), ({ cls := PySem.Value.type "tuple", data := PySem.Data.seq #[] } : Obj)) ::
    ((nat_lit 170 : Nat), ({ cls := PySem.Value.type "code", data := PySem.Data.fields #[PySem.Value.str (PySem.Str.ofString "_law_one") 410, PySem.Value.str (PySem.Str.ofString "_law_one") 411, PySem.Value.str (PySem.Str.ofString "/claim/cut.py") 412, PySem.Value.int 83 0, PySem.Value.int 2 0, PySem.Value.int 0 0, PySem.Value.int 0 0, PySem.Value.int 3 0, PySem.Value.ref 165, PySem.Value.bool Bool.true, PySem.Value.int 181 0, PySem.Value.ref 166, PySem.Value.none, PySem.Value.ref 167, PySem.Value.ref 168, PySem.Value.ref 169, PySem.Value.int 415 0, PySem.Value.int 83 0, PySem.Value.str (PySem.Str.ofString "/claim/cut.py") 416] } : Obj)) ::
    ((nat_lit 171 : Nat), ({ cls := PySem.Value.type "function", data := PySem.Data.func { name := PySem.Str.ofString "_law_one", qualname := PySem.Str.ofString "_law_one", params := p16, body := PySem.FuncBody.stmts b16, scope := s16, globals := 3, closure := [], defaults := PySem.Value.none, kwdefaults := PySem.Value.none, pyModule := PySem.Value.str (PySem.Str.ofString "law_xm0976_01") 388, code := PySem.Value.ref 170 } } : Obj)) ::
    ((nat_lit 172 : Nat), ({ cls := PySem.Value.type "tuple", data := PySem.Data.seq #[] } : Obj)) ::
    ((nat_lit 174 : Nat), ({ cls := PySem.Value.type "tuple", data := PySem.Data.seq #[] } : Obj)) ::
    ((nat_lit 175 : Nat), ({ cls := PySem.Value.type "tuple", data := PySem.Data.seq #[] } : Obj)) ::
    ((nat_lit 177 : Nat), ({ cls := PySem.Value.type "code", data := PySem.Data.fields #[PySem.Value.str (PySem.Str.ofString "_law_names") 418, PySem.Value.str (PySem.Str.ofString "_law_names") 419, PySem.Value.str (PySem.Str.ofString "/claim/cut.py") 420, PySem.Value.int 85 0, PySem.Value.int 0 0, PySem.Value.int 0 0, PySem.Value.int 0 0, PySem.Value.int 3 0, PySem.Value.ref 172, PySem.Value.bool Bool.true, PySem.Value.int 181 0, PySem.Value.ref 173, PySem.Value.none, PySem.Value.ref 174, PySem.Value.ref 175, PySem.Value.ref 176, PySem.Value.int 421 0, PySem.Value.int 85 0, PySem.Value.str (PySem.Str.ofString "/claim/cut.py") 422] } : Obj)) ::
    ((nat_lit 178 : Nat), ({ cls := PySem.Value.type "function", data := PySem.Data.func { name := PySem.Str.ofString "_law_names", qualname := PySem.Str.ofString "_law_names", params := p17, body := PySem.FuncBody.stmts b17, scope := s17, globals := 3, closure := [], defaults := PySem.Value.none, kwdefaults := PySem.Value.none, pyModule := PySem.Value.str (PySem.Str.ofString "law_xm0976_01") 388, code := PySem.Value.ref 177 } } : Obj)) ::
    ((nat_lit 179 : Nat), ({ cls := PySem.Value.type "tuple", data := PySem.Data.seq #[] } : Obj)) ::
    ((nat_lit 181 : Nat), ({ cls := PySem.Value.type "tuple", data := PySem.Data.seq #[] } : Obj)) ::
    ((nat_lit 182 : Nat), ({ cls := PySem.Value.type "tuple", data := PySem.Data.seq #[] } : Obj)) ::
    ((nat_lit 184 : Nat), ({ cls := PySem.Value.type "code", data := PySem.Data.fields #[PySem.Value.str (PySem.Str.ofString "_law_roles") 424, PySem.Value.str (PySem.Str.ofString "_law_roles") 425, PySem.Value.str (PySem.Str.ofString "/claim/cut.py") 426, PySem.Value.int 87 0, PySem.Value.int 0 0, PySem.Value.int 0 0, PySem.Value.int 0 0, PySem.Value.int 3 0, PySem.Value.ref 179, PySem.Value.bool Bool.true, PySem.Value.int 181 0, PySem.Value.ref 180, PySem.Value.none, PySem.Value.ref 181, PySem.Value.ref 182, PySem.Value.ref 183, PySem.Value.int 427 0, PySem.Value.int 87 0, PySem.Value.str (PySem.Str.ofString "/claim/cut.py") 428] } : Obj)) ::
    ((nat_lit 185 : Nat), ({ cls := PySem.Value.type "function", data := PySem.Data.func { name := PySem.Str.ofString "_law_roles", qualname := PySem.Str.ofString "_law_roles", params := p18, body := PySem.FuncBody.stmts b18, scope := s18, globals := 3, closure := [], defaults := PySem.Value.none, kwdefaults := PySem.Value.none, pyModule := PySem.Value.str (PySem.Str.ofString "law_xm0976_01") 388, code := PySem.Value.ref 184 } } : Obj)) ::
    ((nat_lit 186 : Nat), ({ cls := PySem.Value.type "tuple", data := PySem.Data.seq #[] } : Obj)) ::
    ((nat_lit 189 : Nat), ({ cls := PySem.Value.type "code", data := PySem.Data.fields #[PySem.Value.str (PySem.Str.ofString "_law_big") 430, PySem.Value.str (PySem.Str.ofString "_law_big") 431, PySem.Value.str (PySem.Str.ofString "/claim/cut.py") 432, PySem.Value.int 89 0, PySem.Value.int 2 0, PySem.Value.int 0 0, PySem.Value.int 0 0, PySem.Value.int 3 0, PySem.Value.ref 186, PySem.Value.bool Bool.true, PySem.Value.int 181 0, PySem.Value.ref 187, PySem.Value.none, PySem.Value.none, PySem.Value.none, PySem.Value.ref 188, PySem.Value.int 433 0, PySem.Value.int 89 0, PySem.Value.str (PySem.Str.ofString "/claim/cut.py") 434] } : Obj)) ::
    ((nat_lit 190 : Nat), ({ cls := PySem.Value.type "function", data := PySem.Data.func { name := PySem.Str.ofString "_law_big", qualname := PySem.Str.ofString "_law_big", params := p19, body := PySem.FuncBody.stmts b19, scope := s19, globals := 3, closure := [], defaults := PySem.Value.none, kwdefaults := PySem.Value.none, pyModule := PySem.Value.str (PySem.Str.ofString "law_xm0976_01") 388, code := PySem.Value.ref 189 } } : Obj)) ::
    ((nat_lit 191 : Nat), ({ cls := PySem.Value.type "tuple", data := PySem.Data.seq #[] } : Obj)) ::
    ((nat_lit 194 : Nat), ({ cls := PySem.Value.type "code", data := PySem.Data.fields #[PySem.Value.str (PySem.Str.ofString "_law_number") 436, PySem.Value.str (PySem.Str.ofString "_law_number") 437, PySem.Value.str (PySem.Str.ofString "/claim/cut.py") 438, PySem.Value.int 91 0, PySem.Value.int 1 0, PySem.Value.int 0 0, PySem.Value.int 0 0, PySem.Value.int 3 0, PySem.Value.ref 191, PySem.Value.bool Bool.true, PySem.Value.int 181 0, PySem.Value.ref 192, PySem.Value.none, PySem.Value.none, PySem.Value.none, PySem.Value.ref 193, PySem.Value.int 439 0, PySem.Value.int 91 0, PySem.Value.str (PySem.Str.ofString "/claim/cut.py") 440] } : Obj)) ::
    ((nat_lit 195 : Nat), ({ cls := PySem.Value.type "function", data := PySem.Data.func { name := PySem.Str.ofString "_law_number", qualname := PySem.Str.ofString "_law_number", params := p20, body := PySem.FuncBody.stmts b20, scope := s20, globals := 3, closure := [], defaults := PySem.Value.none, kwdefaults := PySem.Value.none, pyModule := PySem.Value.str (PySem.Str.ofString "law_xm0976_01") 388, code := PySem.Value.ref 194 } } : Obj)) ::
    ((nat_lit 196 : Nat), ({ cls := PySem.Value.type "tuple", data := PySem.Data.seq #[] } : Obj)) ::
    ((nat_lit 198 : Nat), ({ cls := PySem.Value.type "tuple", data := PySem.Data.seq #[PySem.Value.str (PySem.Str.ofString "source") 445, PySem.Value.str (PySem.Str.ofString "instance") 446, PySem.Value.str (PySem.Str.ofString "regional") 447, PySem.Value.str (PySem.Str.ofString "found") 448, PySem.Value.str (PySem.Str.ofString "at") 449, PySem.Value.str (PySem.Str.ofString "low") 450, PySem.Value.str (PySem.Str.ofString "mac") 451, PySem.Value.str (PySem.Str.ofString "roots") 452, PySem.Value.str (PySem.Str.ofString "wrong") 453] } : Obj)) ::
    ((nat_lit 199 : Nat), ({ cls := PySem.Value.type "tuple", data := PySem.Data.seq #[] } : Obj)) ::
    ((nat_lit 201 : Nat), ({ cls := PySem.Value.type "code", data := PySem.Data.fields #[PySem.Value.str (PySem.Str.ofString "_law_fields") 442, PySem.Value.str (PySem.Str.ofString "_law_fields") 443, PySem.Value.str (PySem.Str.ofString "/claim/cut.py") 444, PySem.Value.int 93 0, PySem.Value.int 1 0, PySem.Value.int 0 0, PySem.Value.int 0 0, PySem.Value.int 3 0, PySem.Value.ref 196, PySem.Value.bool Bool.true, PySem.Value.int 181 0, PySem.Value.ref 197, PySem.Value.none, PySem.Value.ref 198, PySem.Value.ref 199, PySem.Value.ref 200, PySem.Value.int 454 0, PySem.Value.int 93 0, PySem.Value.str (PySem.Str.ofString "/claim/cut.py") 455] } : Obj)) ::
    ((nat_lit 202 : Nat), ({ cls := PySem.Value.type "function", data := PySem.Data.func { name := PySem.Str.ofString "_law_fields", qualname := PySem.Str.ofString "_law_fields", params := p21, body := PySem.FuncBody.stmts b21, scope := s21, globals := 3, closure := [], defaults := PySem.Value.none, kwdefaults := PySem.Value.none, pyModule := PySem.Value.str (PySem.Str.ofString "law_xm0976_01") 388, code := PySem.Value.ref 201 } } : Obj)) ::
    ((nat_lit 203 : Nat), ({ cls := PySem.Value.type "tuple", data := PySem.Data.seq #[] } : Obj)) ::
    ((nat_lit 205 : Nat), ({ cls := PySem.Value.type "tuple", data := PySem.Data.seq #[PySem.Value.str (PySem.Str.ofString "fields") 460, PySem.Value.str (PySem.Str.ofString "instance") 461, PySem.Value.str (PySem.Str.ofString "regional") 462, PySem.Value.str (PySem.Str.ofString "cost") 463, PySem.Value.str (PySem.Str.ofString "priority") 464, PySem.Value.str (PySem.Str.ofString "port_priority") 465, PySem.Value.str (PySem.Str.ofString "hops") 466, PySem.Value.str (PySem.Str.ofString "role") 467] } : Obj)) ::
    ((nat_lit 206 : Nat), ({ cls := PySem.Value.type "tuple", data := PySem.Data.seq #[] } : Obj)) ::
    ((nat_lit 208 : Nat), ({ cls := PySem.Value.type "code", data := PySem.Data.fields #[PySem.Value.str (PySem.Str.ofString "_law_is_row") 457, PySem.Value.str (PySem.Str.ofString "_law_is_row") 458, PySem.Value.str (PySem.Str.ofString "/claim/cut.py") 459, PySem.Value.int 107 0, PySem.Value.int 1 0, PySem.Value.int 0 0, PySem.Value.int 0 0, PySem.Value.int 3 0, PySem.Value.ref 203, PySem.Value.bool Bool.true, PySem.Value.int 181 0, PySem.Value.ref 204, PySem.Value.none, PySem.Value.ref 205, PySem.Value.ref 206, PySem.Value.ref 207, PySem.Value.int 468 0, PySem.Value.int 107 0, PySem.Value.str (PySem.Str.ofString "/claim/cut.py") 469] } : Obj)) ::
    ((nat_lit 209 : Nat), ({ cls := PySem.Value.type "function", data := PySem.Data.func { name := PySem.Str.ofString "_law_is_row", qualname := PySem.Str.ofString "_law_is_row", params := p22, body := PySem.FuncBody.stmts b22, scope := s22, globals := 3, closure := [], defaults := PySem.Value.none, kwdefaults := PySem.Value.none, pyModule := PySem.Value.str (PySem.Str.ofString "law_xm0976_01") 388, code := PySem.Value.ref 208 } } : Obj)) ::
    ((nat_lit 210 : Nat), ({ cls := PySem.Value.type "tuple", data := PySem.Data.seq #[] } : Obj)) ::
    ((nat_lit 213 : Nat), ({ cls := PySem.Value.type "code", data := PySem.Data.fields #[PySem.Value.str (PySem.Str.ofString "_law_has_room") 471, PySem.Value.str (PySem.Str.ofString "_law_has_room") 472, PySem.Value.str (PySem.Str.ofString "/claim/cut.py") 473, PySem.Value.int 112 0, PySem.Value.int 1 0, PySem.Value.int 0 0, PySem.Value.int 0 0, PySem.Value.int 3 0, PySem.Value.ref 210, PySem.Value.bool Bool.true, PySem.Value.int 181 0, PySem.Value.ref 211, PySem.Value.none, PySem.Value.none, PySem.Value.none, PySem.Value.ref 212, PySem.Value.int 474 0, PySem.Value.int 112 0, PySem.Value.str (PySem.Str.ofString "/claim/cut.py") 475] } : Obj)) ::
    ((nat_lit 214 : Nat), ({ cls := PySem.Value.type "function", data := PySem.Data.func { name := PySem.Str.ofString "_law_has_room", qualname := PySem.Str.ofString "_law_has_room", params := p23, body := PySem.FuncBody.stmts b23, scope := s23, globals := 3, closure := [], defaults := PySem.Value.none, kwdefaults := PySem.Value.none, pyModule := PySem.Value.str (PySem.Str.ofString "law_xm0976_01") 388, code := PySem.Value.ref 213 } } : Obj)) ::
    ((nat_lit 215 : Nat), ({ cls := PySem.Value.type "tuple", data := PySem.Data.seq #[] } : Obj)) ::
    ((nat_lit 217 : Nat), ({ cls := PySem.Value.type "tuple", data := PySem.Data.seq #[PySem.Value.str (PySem.Str.ofString "fields") 480, PySem.Value.str (PySem.Str.ofString "flags") 481, PySem.Value.str (PySem.Str.ofString "instance") 482, PySem.Value.str (PySem.Str.ofString "regional") 483, PySem.Value.str (PySem.Str.ofString "cost") 484, PySem.Value.str (PySem.Str.ofString "priority") 485, PySem.Value.str (PySem.Str.ofString "port_priority") 486, PySem.Value.str (PySem.Str.ofString "hops") 487, PySem.Value.str (PySem.Str.ofString "role") 488, PySem.Value.str (PySem.Str.ofString "bits") 489, PySem.Value.str (PySem.Str.ofString "name") 490, PySem.Value.str (PySem.Str.ofString "bit") 491, PySem.Value.str (PySem.Str.ofString "head") 492] } : Obj)) ::
    ((nat_lit 218 : Nat), ({ cls := PySem.Value.type "tuple", data := PySem.Data.seq #[] } : Obj)) ::
    ((nat_lit 220 : Nat), ({ cls := PySem.Value.type "code", data := PySem.Data.fields #[PySem.Value.str (PySem.Str.ofString "_law_laid") 477, PySem.Value.str (PySem.Str.ofString "_law_laid") 478, PySem.Value.str (PySem.Str.ofString "/claim/cut.py") 479, PySem.Value.int 117 0, PySem.Value.int 2 0, PySem.Value.int 0 0, PySem.Value.int 0 0, PySem.Value.int 3 0, PySem.Value.ref 215, PySem.Value.bool Bool.true, PySem.Value.int 181 0, PySem.Value.ref 216, PySem.Value.none, PySem.Value.ref 217, PySem.Value.ref 218, PySem.Value.ref 219, PySem.Value.int 493 0, PySem.Value.int 117 0, PySem.Value.str (PySem.Str.ofString "/claim/cut.py") 494] } : Obj)) ::
    ((nat_lit 221 : Nat), ({ cls := PySem.Value.type "function", data := PySem.Data.func { name := PySem.Str.ofString "_law_laid", qualname := PySem.Str.ofString "_law_laid", params := p24, body := PySem.FuncBody.stmts b24, scope := s24, globals := 3, closure := [], defaults := PySem.Value.none, kwdefaults := PySem.Value.none, pyModule := PySem.Value.str (PySem.Str.ofString "law_xm0976_01") 388, code := PySem.Value.ref 220 } } : Obj)) ::
    ((nat_lit 222 : Nat), ({ cls := PySem.Value.type "tuple", data := PySem.Data.seq #[] } : Obj)) ::
    ((nat_lit 225 : Nat), ({ cls := PySem.Value.type "code", data := PySem.Data.fields #[PySem.Value.str (PySem.Str.ofString "_law_told") 496, PySem.Value.str (PySem.Str.ofString "_law_told") 497, PySem.Value.str (PySem.Str.ofString "/claim/cut.py") 498, PySem.Value.int 124 0, PySem.Value.int 1 0, PySem.Value.int 0 0, PySem.Value.int 0 0, PySem.Value.int 3 0, PySem.Value.ref 222, PySem.Value.bool Bool.true, PySem.Value.int 181 0, PySem.Value.ref 223, PySem.Value.none, PySem.Value.none, PySem.Value.none, PySem.Value.ref 224, PySem.Value.int 499 0, PySem.Value.int 124 0, PySem.Value.str (PySem.Str.ofString "/claim/cut.py") 500] } : Obj)) ::
    ((nat_lit 226 : Nat), ({ cls := PySem.Value.type "function", data := PySem.Data.func { name := PySem.Str.ofString "_law_told", qualname := PySem.Str.ofString "_law_told", params := p25, body := PySem.FuncBody.stmts b25, scope := s25, globals := 3, closure := [], defaults := PySem.Value.none, kwdefaults := PySem.Value.none, pyModule := PySem.Value.str (PySem.Str.ofString "law_xm0976_01") 388, code := PySem.Value.ref 225 } } : Obj)) ::
    ((nat_lit 227 : Nat), ({ cls := PySem.Value.type "tuple", data := PySem.Data.seq #[] } : Obj)) ::
    ((nat_lit 229 : Nat), ({ cls := PySem.Value.type "tuple", data := PySem.Data.seq #[PySem.Value.str (PySem.Str.ofString "call") 505] } : Obj)) ::
    ((nat_lit 230 : Nat), ({ cls := PySem.Value.type "tuple", data := PySem.Data.seq #[] } : Obj)) ::
    ((nat_lit 232 : Nat), ({ cls := PySem.Value.type "code", data := PySem.Data.fields #[PySem.Value.str (PySem.Str.ofString "_law_is_refused") 502, PySem.Value.str (PySem.Str.ofString "_law_is_refused") 503, PySem.Value.str (PySem.Str.ofString "/claim/cut.py") 504, PySem.Value.int 130 0, PySem.Value.int 1 0, PySem.Value.int 0 0, PySem.Value.int 0 0, PySem.Value.int 3 0, PySem.Value.ref 227, PySem.Value.bool Bool.true, PySem.Value.int 181 0, PySem.Value.ref 228, PySem.Value.none, PySem.Value.ref 229, PySem.Value.ref 230, PySem.Value.ref 231, PySem.Value.int 506 0, PySem.Value.int 130 0, PySem.Value.str (PySem.Str.ofString "/claim/cut.py") 507] } : Obj)) ::
    ((nat_lit 233 : Nat), ({ cls := PySem.Value.type "function", data := PySem.Data.func { name := PySem.Str.ofString "_law_is_refused", qualname := PySem.Str.ofString "_law_is_refused", params := p26, body := PySem.FuncBody.stmts b26, scope := s26, globals := 3, closure := [], defaults := PySem.Value.none, kwdefaults := PySem.Value.none, pyModule := PySem.Value.str (PySem.Str.ofString "law_xm0976_01") 388, code := PySem.Value.ref 232 } } : Obj)) ::
    ((nat_lit 234 : Nat), ({ cls := PySem.Value.type "tuple", data := PySem.Data.seq #[] } : Obj)) ::
    ((nat_lit 237 : Nat), ({ cls := PySem.Value.type "code", data := PySem.Data.fields #[PySem.Value.str (PySem.Str.ofString "_law_row_right") 509, PySem.Value.str (PySem.Str.ofString "_law_row_right") 510, PySem.Value.str (PySem.Str.ofString "/claim/cut.py") 511, PySem.Value.int 136 0, PySem.Value.int 1 0, PySem.Value.int 0 0, PySem.Value.int 0 0, PySem.Value.int 3 0, PySem.Value.ref 234, PySem.Value.bool Bool.true, PySem.Value.int 181 0, PySem.Value.ref 235, PySem.Value.none, PySem.Value.none, PySem.Value.none, PySem.Value.ref 236, PySem.Value.int 512 0, PySem.Value.int 136 0, PySem.Value.str (PySem.Str.ofString "/claim/cut.py") 513] } : Obj)) ::
    ((nat_lit 238 : Nat), ({ cls := PySem.Value.type "function", data := PySem.Data.func { name := PySem.Str.ofString "_law_row_right", qualname := PySem.Str.ofString "_law_row_right", params := p27, body := PySem.FuncBody.stmts b27, scope := s27, globals := 3, closure := [], defaults := PySem.Value.none, kwdefaults := PySem.Value.none, pyModule := PySem.Value.str (PySem.Str.ofString "law_xm0976_01") 388, code := PySem.Value.ref 237 } } : Obj)) ::
    ((nat_lit 239 : Nat), ({ cls := PySem.Value.type "tuple", data := PySem.Data.seq #[] } : Obj)) ::
    ((nat_lit 241 : Nat), ({ cls := PySem.Value.type "tuple", data := PySem.Data.seq #[PySem.Value.str (PySem.Str.ofString "source") 518, PySem.Value.str (PySem.Str.ofString "many") 519, PySem.Value.str (PySem.Str.ofString "bridge") 520, PySem.Value.str (PySem.Str.ofString "port") 521, PySem.Value.str (PySem.Str.ofString "ahead") 522] } : Obj)) ::
    ((nat_lit 242 : Nat), ({ cls := PySem.Value.type "tuple", data := PySem.Data.seq #[] } : Obj)) ::
    ((nat_lit 244 : Nat), ({ cls := PySem.Value.type "code", data := PySem.Data.fields #[PySem.Value.str (PySem.Str.ofString "_law_vector") 515, PySem.Value.str (PySem.Str.ofString "_law_vector") 516, PySem.Value.str (PySem.Str.ofString "/claim/cut.py") 517, PySem.Value.int 146 0, PySem.Value.int 2 0, PySem.Value.int 0 0, PySem.Value.int 0 0, PySem.Value.int 3 0, PySem.Value.ref 239, PySem.Value.bool Bool.true, PySem.Value.int 181 0, PySem.Value.ref 240, PySem.Value.none, PySem.Value.ref 241, PySem.Value.ref 242, PySem.Value.ref 243, PySem.Value.int 523 0, PySem.Value.int 146 0, PySem.Value.str (PySem.Str.ofString "/claim/cut.py") 524] } : Obj)) ::
    ((nat_lit 245 : Nat), ({ cls := PySem.Value.type "function", data := PySem.Data.func { name := PySem.Str.ofString "_law_vector", qualname := PySem.Str.ofString "_law_vector", params := p28, body := PySem.FuncBody.stmts b28, scope := s28, globals := 3, closure := [], defaults := PySem.Value.none, kwdefaults := PySem.Value.none, pyModule := PySem.Value.str (PySem.Str.ofString "law_xm0976_01") 388, code := PySem.Value.ref 244 } } : Obj)) ::
    ((nat_lit 246 : Nat), ({ cls := PySem.Value.type "tuple", data := PySem.Data.seq #[] } : Obj)) ::
    ((nat_lit 249 : Nat), ({ cls := PySem.Value.type "code", data := PySem.Data.fields #[PySem.Value.str (PySem.Str.ofString "_law_vectors_right") 526, PySem.Value.str (PySem.Str.ofString "_law_vectors_right") 527, PySem.Value.str (PySem.Str.ofString "/claim/cut.py") 528, PySem.Value.int 151 0, PySem.Value.int 1 0, PySem.Value.int 0 0, PySem.Value.int 0 0, PySem.Value.int 3 0, PySem.Value.ref 246, PySem.Value.bool Bool.true, PySem.Value.int 181 0, PySem.Value.ref 247, PySem.Value.none, PySem.Value.none, PySem.Value.none, PySem.Value.ref 248, PySem.Value.int 529 0, PySem.Value.int 151 0, PySem.Value.str (PySem.Str.ofString "/claim/cut.py") 530] } : Obj)) ::
    ((nat_lit 250 : Nat), ({ cls := PySem.Value.type "function", data := PySem.Data.func { name := PySem.Str.ofString "_law_vectors_right", qualname := PySem.Str.ofString "_law_vectors_right", params := p29, body := PySem.FuncBody.stmts b29, scope := s29, globals := 3, closure := [], defaults := PySem.Value.none, kwdefaults := PySem.Value.none, pyModule := PySem.Value.str (PySem.Str.ofString "law_xm0976_01") 388, code := PySem.Value.ref 249 } } : Obj)) ::
    ((nat_lit 251 : Nat), ({ cls := PySem.Value.type "tuple", data := PySem.Data.seq #[] } : Obj)) ::
    ((nat_lit 254 : Nat), ({ cls := PySem.Value.type "code", data := PySem.Data.fields #[PySem.Value.str (PySem.Str.ofString "law") 532, PySem.Value.str (PySem.Str.ofString "law") 533, PySem.Value.str (PySem.Str.ofString "/claim/cut.py") 534, PySem.Value.int 162 0, PySem.Value.int 1 0, PySem.Value.int 0 0, PySem.Value.int 0 0, PySem.Value.int 3 0, PySem.Value.ref 251, PySem.Value.bool Bool.true, PySem.Value.int 181 0, PySem.Value.ref 252, PySem.Value.none, PySem.Value.none, PySem.Value.none, PySem.Value.ref 253, PySem.Value.int 535 0, PySem.Value.int 162 0, PySem.Value.str (PySem.Str.ofString "/claim/cut.py") 536] } : Obj)) ::
    ((nat_lit 255 : Nat), ({ cls := PySem.Value.type "function", data := PySem.Data.func { name := PySem.Str.ofString "law", qualname := PySem.Str.ofString "law", params := p30, body := PySem.FuncBody.stmts b30, scope := s30, globals := 3, closure := [], defaults := PySem.Value.none, kwdefaults := PySem.Value.none, pyModule := PySem.Value.str (PySem.Str.ofString "law_xm0976_01") 388, code := PySem.Value.ref 254 } } : Obj)) :: []
/-- the text without its four __name__ rows -/
noncomputable def VH : Program := { PySem.Challenge.pw_xm0976_01 with main := { PySem.Challenge.pw_xm0976_01.main with body := [nthS topS 1, nthS topS 2, nthS topS 4, nthS topS 5, nthS topS 6, nthS topS 7, nthS topS 9, nthS topS 10, nthS topS 11, nthS topS 12, nthS topS 13, nthS topS 14, nthS topS 15, nthS topS 16, nthS topS 17, nthS topS 18, nthS topS 20, nthS topS 21, nthS topS 22, nthS topS 23, nthS topS 24, nthS topS 25, nthS topS 26, nthS topS 27, nthS topS 28, nthS topS 29, nthS topS 30, nthS topS 31, nthS topS 32, nthS topS 33, nthS topS 34, nthS topS 35, nthS topS 36] } }
noncomputable abbrev asL : List Nat := [2, 3, 15, 22, 24, 25, 27, 28, 29, 30, 31, 32, 35, 42, 43, 44, 47, 50, 51, 52, 54, 55, 57, 58, 59, 61, 62, 64, 65, 66, 68, 69, 71, 72, 73, 81, 83, 84, 86, 87, 88, 90, 91, 93, 94, 95, 98, 99, 100, 101, 102, 103, 104, 107, 108, 109, 110, 111, 112, 113, 115, 116, 118, 119, 120, 123, 124, 125, 128, 129, 130, 132, 133, 135, 136, 137, 139, 140, 142, 143, 144, 146, 147, 149, 150, 151, 153, 154, 156, 157, 158, 160, 161, 163, 164, 165, 167, 168, 170, 171, 172, 174, 175, 177, 178, 179, 181, 182, 184, 185, 186, 189, 190, 191, 194, 195, 196, 198, 199, 201, 202, 203, 205, 206, 208, 209, 210, 213, 214, 215, 217, 218, 220, 221, 222, 225, 226, 227, 229, 230, 232, 233, 234, 237, 238, 239, 241, 242, 244, 245, 246, 249, 250, 251, 254, 255]
noncomputable abbrev hookH : Hook := kHook KH asL (fun _ => by kernel_rfl)
abbrev rowH : OpenRow := PySem.Challenge.rw_xm0976_01.row
noncomputable abbrev XtH : Shared → Bool := fun s => xlAt VH [] s && recOk (RowW.records (OpenRow.toRowW rowH)) s
set_option maxHeartbeats 0 in
theorem wellH : PySem.Challenge.rw_xm0976_01.wellSaid = true := by kernel_rfl
set_option maxHeartbeats 0 in
theorem leftH : LeftO rowH.prog VH [] XtH (Hook.obs hookH) (Hook.val hookH) 3372 := by
  intro w
  kernel_rfl
set_option maxHeartbeats 0 in
theorem hdS {d : DefRec} {kwd : List (Str × PySem.Expr)} (hdef : defOf VH rowH.name = some (d, kwd)) (hp : rowH.prog.theDef rowH.name = some (d.params, d.body, d.scope)) (hk : kwWritten? d.params.kwonlyargs d.params.kw_defaults = some kwd)
    (call : WalkO VH [] (XL VH []) (Hook.says hookH) rowH.toRowW d kwd fun f vs => PySem.call f vs) : PySem.Challenge.rw_xm0976_01.Holds := by
  w_on
  refine holds_law wellH fun said => ?_
  refine holds_open (q := VH) (loose := []) (Xt := XtH) (XP := XL VH []) (Yf := Hook.obs hookH) (Ya := Hook.val hookH) (YP := Hook.says hookH) (N := 3372) leftH (Hook.of hookH) (Hook.keeps hookH) (fun s e => xl_of s (Bool.and_eq_true_iff.mp e).1) XL.keeps hdef hp hk (fun s e => recFacts_of (Bool.and_eq_true_iff.mp e).2) (by rfl) (by first | assumption | decide +kernel) (by decide +kernel) ⟨rfl, rfl, rfl, rfl, rfl, by decide +kernel⟩ ?hw call
  case hw => w_witness2
end head
theorem topOff : True := by
  w_top off
  trivial
abbrev prg := PySem.Challenge.rw_xm0976_01.row.prog
abbrev Led := List (Addr × Obj)
/-- the pool: a list of two ints -/
abbrev pool (x y : Int) (tx ty : Tok) (n : Nat) : Obj := listOf #[.int x tx, .int y ty] n

section
variable {prog : Program} {w : World} {A : Around} {E : Value → Shared → Prop} {s : Shared} {a b : Int} {t u : Tok} {Q : Value → Shared → Prop}
theorem item_lit {value slice : PySem.Expr} {l : Addr} {vs : List Value} {k : Int} {u : Tok} {v : Value}
    (hl : s.heap.IsList l vs.toArray) (h0 : 0 ≤ k) (hhi : k < 2 ^ 63) (hx : vs[k.toNat]? = some v) (h : Q v s)
    (hs : subscripted slice false (.ref l) (.int k u) = operate [.ref l, .int k u] (getItem (.ref l) (.int k u)) := by with_unfolding_all rfl) :
    wpAny (model prog w) A (subscriptTail value slice (.ref l) (.int k u)) Q E s :=
  tail_any hl.typeIs slot_list_getitem.lookup (wpAny_getItem_list hl h0 hhi (by simpa using hx) h) hs
theorem mod_pos (hb : 0 < b) (h : ∀ d, d = a % b → 0 ≤ d → d < b → Q (.int d s.toks) { s with toks := s.toks + 1 }) : wpAny (model prog w) A (binaryOp .Mod (.int a t) (.int b u)) Q E s := by
  refine mod_int' (by omega) ?_
  rw [Int.fmod_eq_emod_of_nonneg _ (by omega)]
  exact h _ rfl (Int.emod_nonneg _ (by omega)) (Int.emod_lt_of_pos _ hb)
theorem div_pos (hb : 0 < b) (hl : b < 2 ^ 64) (h : ∀ d, d = a / b → (0 ≤ a → 0 ≤ d ∧ d ≤ a) → Q (.int d s.toks) { s with toks := s.toks + 1 }) : wpAny (model prog w) A (binaryOp .FloorDiv (.int a t) (.int b u)) Q E s := by
  have h2 : b.natAbs.log2 < 9000 := by
    refine (Nat.log2_lt (by omega)).mpr ?_
    refine Nat.lt_of_lt_of_le (m := 2 ^ 64) (by omega) (Nat.pow_le_pow_right (by decide) (by decide))
  refine floordiv_int (by omega) ?_ (Or.inl (PyProof.noPylong_of_log2 h2))
  rw [Int.fdiv_eq_ediv_of_nonneg _ (by omega)]
  refine h _ rfl fun h0 => ⟨Int.ediv_nonneg h0 (by omega), Int.ediv_le_self _ h0⟩
theorem mul_r (h1 : -(2 ^ 64) < b) (h2 : b < 2 ^ 64) (h : Q (.int (a * b) s.toks) { s with toks := s.toks + 1 }) : wpAny (model prog w) A (binaryOp .Mult (.int a t) (.int b u)) Q E s :=
  mul_int h (IntMulOk.of_right (intBits_le_64 h1 h2))
theorem mul_l (h1 : -(2 ^ 64) < a) (h2 : a < 2 ^ 64) (h : Q (.int (a * b) s.toks) { s with toks := s.toks + 1 }) : wpAny (model prog w) A (binaryOp .Mult (.int a t) (.int b u)) Q E s :=
  mul_int h (IntMulOk.of_left (intBits_le_64 h1 h2))
end
theorem bnot (x : Int) : Builtin.bitNot x = -x - 1 := by unfold Builtin.bitNot; omega
theorem band {x y : Int} (hx : 0 ≤ x) (hy : 0 ≤ y) : Builtin.bitAnd x y = ((x.toNat &&& y.toNat : Nat) : Int) := by
  unfold Builtin.bitAnd
  simp only [hx, hy, decide_true]
theorem and4095 {x : Int} (hx : 0 ≤ x) : Builtin.bitAnd x 4095 = x % 4096 := by
  obtain ⟨n, rfl⟩ := Int.eq_ofNat_of_zero_le hx
  rw [band hx (by decide)]
  exact congrArg Int.ofNat (Nat.and_two_pow_sub_one_eq_mod n 12)
theorem nat_and240 : ∀ x : Fin 256, x.val &&& 240 = x.val / 16 * 16 := by decide +kernel
theorem and240 {x : Int} (hx : 0 ≤ x) (h : x < 256) : Builtin.bitAnd x 240 = x / 16 * 16 := by
  obtain ⟨n, rfl⟩ := Int.eq_ofNat_of_zero_le hx
  rw [band hx (by decide)]
  exact congrArg Int.ofNat (nat_and240 ⟨n, Int.ofNat_lt.mp h⟩)
theorem nat_bits : ∀ x : Fin 256, x.val &&& 1 = x.val % 2 ∧ x.val &&& 2 = x.val / 2 % 2 * 2 ∧ x.val &&& 16 = x.val / 16 % 2 * 16 ∧ x.val &&& 32 = x.val / 32 % 2 * 32 ∧ x.val &&& 64 = x.val / 64 % 2 * 64 := by decide +kernel
theorem and1 {x : Int} (hx : 0 ≤ x) (h : x < 256) : Builtin.bitAnd x 1 = x % 2 := by
  obtain ⟨n, rfl⟩ := Int.eq_ofNat_of_zero_le hx
  rw [band hx (by decide)]
  exact congrArg Int.ofNat (nat_bits ⟨n, Int.ofNat_lt.mp h⟩).1
theorem and2 {x : Int} (hx : 0 ≤ x) (h : x < 256) : Builtin.bitAnd x 2 = x / 2 % 2 * 2 := by
  obtain ⟨n, rfl⟩ := Int.eq_ofNat_of_zero_le hx
  rw [band hx (by decide)]
  exact congrArg Int.ofNat (nat_bits ⟨n, Int.ofNat_lt.mp h⟩).2.1
theorem and16 {x : Int} (hx : 0 ≤ x) (h : x < 256) : Builtin.bitAnd x 16 = x / 16 % 2 * 16 := by
  obtain ⟨n, rfl⟩ := Int.eq_ofNat_of_zero_le hx
  rw [band hx (by decide)]
  exact congrArg Int.ofNat (nat_bits ⟨n, Int.ofNat_lt.mp h⟩).2.2.1
theorem and32 {x : Int} (hx : 0 ≤ x) (h : x < 256) : Builtin.bitAnd x 32 = x / 32 % 2 * 32 := by
  obtain ⟨n, rfl⟩ := Int.eq_ofNat_of_zero_le hx
  rw [band hx (by decide)]
  exact congrArg Int.ofNat (nat_bits ⟨n, Int.ofNat_lt.mp h⟩).2.2.2.1
theorem and64 {x : Int} (hx : 0 ≤ x) (h : x < 256) : Builtin.bitAnd x 64 = x / 64 % 2 * 64 := by
  obtain ⟨n, rfl⟩ := Int.eq_ofNat_of_zero_le hx
  rw [band hx (by decide)]
  exact congrArg Int.ofNat (nat_bits ⟨n, Int.ofNat_lt.mp h⟩).2.2.2.2
theorem neg1 {x : Int} (h : 0 ≤ x) : decide (0 ≤ -x - 1) = false := decide_eq_false (by omega)
theorem neg2 (x : Int) : -(-x - 1) - 1 = x := by omega
theorem or8 {f o : Int} (hf : 0 ≤ f) (h0 : 0 ≤ o) (h1 : o < 256) : Builtin.bitOr (f * 256) o = f * 256 + o := by
  have e : ∀ x y : Int, 0 ≤ x → 0 ≤ y → Builtin.bitOr x y = ((x.toNat ||| y.toNat : Nat) : Int) := fun x y hx hy => by
    unfold Builtin.bitOr
    rw [bnot x, bnot y]
    unfold Builtin.bitAnd
    rw [neg1 hx, neg1 hy]
    simp only [bnot]
    rw [neg2 x, neg2 y]
    omega
  rw [e _ _ (by omega) h0]
  obtain ⟨n, rfl⟩ := Int.eq_ofNat_of_zero_le hf
  obtain ⟨k, rfl⟩ := Int.eq_ofNat_of_zero_le h0
  rw [show ((n : Int) * 256).toNat = 2 ^ 8 * n by omega, show ((k : Int)).toNat = k by omega, ← Nat.two_pow_add_eq_or_of_lt (by omega)]
  omega
section
variable {prog : Program} {w : World} {A : Around} {E : Value → Shared → Prop} {s : Shared} {a b : Int} {t u : Tok} {Q : Value → Shared → Prop}
theorem and_is {c : Int} (e : Builtin.bitAnd a b = c) (h : ∀ d, d = c → Q (.int d s.toks) { s with toks := s.toks + 1 }) : wpAny (model prog w) A (binaryOp .BitAnd (.int a t) (.int b u)) Q E s :=
  and_int (e ▸ h _ rfl)
theorem or_is {c : Int} (e : Builtin.bitOr a b = c) (h : ∀ d, d = c → Q (.int d s.toks) { s with toks := s.toks + 1 }) : wpAny (model prog w) A (binaryOp .BitOr (.int a t) (.int b u)) Q E s :=
  or_int (e ▸ h _ rfl)
theorem shl_is {n p : Int} (hn : 0 ≤ n) (hn2 : n ≤ 1000000) (ha : a.natAbs < 2 ^ 64) (hp : 2 ^ n.toNat = p) (h : ∀ d, d = a * p → Q (.int d s.toks) { s with toks := s.toks + 1 }) :
    wpAny (model prog w) A (binaryOp .LShift (.int a t) (.int n u)) Q E s := lshift_int_small hn hn2 ha (hp ▸ h _ rfl)
theorem shr_is {n p : Int} (hn : 0 ≤ n) (hp : 2 ^ n.toNat = p) (h : ∀ d, d = a / p → Q (.int d s.toks) { s with toks := s.toks + 1 }) :
    wpAny (model prog w) A (binaryOp .RShift (.int a t) (.int n u)) Q E s := by
  refine rshift_int hn ?_
  have h2 : (0 : Int) ≤ 2 ^ n.toNat := Int.le_of_lt (Int.pow_pos (by decide))
  rw [Int.fdiv_eq_ediv_of_nonneg _ h2, hp]
  exact h _ rfl
theorem pow_is {n p : Int} (hn : 0 ≤ n) (hn2 : n ≤ 1000000) (ha : a.natAbs < 2 ^ 64) (hp : a ^ n.toNat = p) (h : ∀ d, d = p → Q (.int d s.toks) { s with toks := s.toks + 1 }) :
    wpAny (model prog w) A (binaryOp .Pow (.int a t) (.int n u)) Q E s := pow_int_small hn hn2 ha (hp ▸ h _ rfl)
theorem mul_is {c : Int} (h1 : -(2 ^ 64) < b) (h2 : b < 2 ^ 64) (e : a * b = c) (h : ∀ d, d = c → Q (.int d s.toks) { s with toks := s.toks + 1 }) : wpAny (model prog w) A (binaryOp .Mult (.int a t) (.int b u)) Q E s :=
  mul_r h1 h2 (e ▸ h _ rfl)
end

section comp
open PyProof.Rows.LCg
variable {prog : Program} {w : World} {A : Around} {E : Value → Shared → Prop} {s : Shared} {h₀ : Heap} {L : Addr} {m : Str → Option Value} {env : Env}

theorem mc_loopL {elt target iter : PySem.Expr} {ifs : List PySem.Expr} {scope : Scope} {pos : Pos} {it acc : Value} {env : Env} {R : Result → Shared → Prop} (I : Nat → Shared → Prop)
    (turn : ∀ n s, I n s → wpAny (model prog w) A (pyNext it) (fun r s₁ => match r with
      | none => R (.ok .next) s₁
      | some v => wpAny (model prog w) A (letOwnedTupleGo target it v) (fun _ s₀ => wpAny (model prog w) A (assign target env v) (fun _ s₂ =>
          wpAny (model prog w) A (forIn ifs true fun c r => if r = true then do let ok ← isTrue c env (eval c env); pure (ForInStep.yield ok) else pure (ForInStep.yield r)) (fun ok s₃ =>
            if ok = true then wpAny (model prog w) A (eval elt env) (fun x s₄ =>
              wpAny (model prog w) A (call (.builtin "list.append") [acc, x]) (fun _ s₅ => ∃ m, m < n ∧ I m s₅) (notedBy (model prog w) A env fun e s' => R (.error e) s') s₄) (notedBy (model prog w) A env fun e s' => R (.error e) s') s₃
            else ∃ m, m < n ∧ I m s₃) (notedBy (model prog w) A env fun e s' => R (.error e) s') s₂) (notedBy (model prog w) A env fun e s' => R (.error e) s') s₀) (notedBy (model prog w) A env fun e s' => R (.error e) s') s₁) (notedBy (model prog w) A env fun e s' => R (.error e) s') s)
    (n : Nat) (h : I n s) : codeAny (model prog w) A (.compLoop (.ListComp elt [⟨target, iter, ifs, 0⟩] scope pos) 0 it acc env) R s := (by exact use_of : Use _ (by
 first
 | (
  refine codeAny_loop rfl I (fun n s hI => ?_) n h
  show wpAny _ A ((compTurn (.ListComp elt [⟨target, iter, ifs, 0⟩] scope pos) 0 it acc env).onRaise (fun x => do noteFrame x env; theTreesLotGoes x)) _ _ s
  refine wpAny_noted ?_
  rw [compTurn_list]
  refine wpAny_bind (wpAny_standAt (wpAny_bind (wpAny_mono (turn n s hI) (fun r s₁ h₁ => ?_) fun _ _ h' => h')))
  cases r with
  | none => exact wpAny_pure h₁
  | some v =>
    refine wpAny_bind (wpAny_mono h₁ (fun _ s₀ h₀' => ?_) fun _ _ h' => h')
    refine wpAny_bind (wpAny_mono h₀' (fun _ s₂ h₂ => wpAny_bind (wpAny_mono h₂ (fun ok s₃ h₃ => ?_) fun _ _ h' => h')) fun _ _ h' => h')
    cases ok with
    | false => exact wpAny_pure ⟨rfl, h₃⟩
    | true => exact wpAny_bind (wpAny_bind (wpAny_mono h₃ (fun x s₄ h₄ => wpAny_bind (wpAny_mono h₄ (fun _ s₅ h₅ => wpAny_pure (wpAny_pure ⟨rfl, h₅⟩)) fun _ _ h' => h')) fun _ _ h' => h')))
 | fail))

theorem mc_loopD {kx vx target iter : PySem.Expr} {ifs : List PySem.Expr} {scope : Scope} {pos : Pos} {it : Value} {D : Addr} {env : Env} {R : Result → Shared → Prop} (I : Nat → Shared → Prop)
    (turn : ∀ n s, I n s → wpAny (model prog w) A (pyNext it) (fun r s₁ => match r with
      | none => R (.ok .next) s₁
      | some v => wpAny (model prog w) A (letOwnedTupleGo target it v) (fun _ s₀ => wpAny (model prog w) A (assign target env v) (fun _ s₂ =>
          wpAny (model prog w) A (forIn ifs true fun c r => if r = true then do let ok ← isTrue c env (eval c env); pure (ForInStep.yield ok) else pure (ForInStep.yield r)) (fun ok s₃ =>
            if ok = true then wpAny (model prog w) A (eval kx env) (fun kv s₄ => wpAny (model prog w) A (eval vx env) (fun vv s₅ =>
              wpAny (model prog w) A (dictSet D kv vv) (fun _ s₆ => ∃ m, m < n ∧ I m s₆) (notedBy (model prog w) A env fun e s' => R (.error e) s') s₅) (notedBy (model prog w) A env fun e s' => R (.error e) s') s₄) (notedBy (model prog w) A env fun e s' => R (.error e) s') s₃
            else ∃ m, m < n ∧ I m s₃) (notedBy (model prog w) A env fun e s' => R (.error e) s') s₂) (notedBy (model prog w) A env fun e s' => R (.error e) s') s₀) (notedBy (model prog w) A env fun e s' => R (.error e) s') s₁) (notedBy (model prog w) A env fun e s' => R (.error e) s') s)
    (n : Nat) (h : I n s) : codeAny (model prog w) A (.compLoop (.DictComp kx vx [⟨target, iter, ifs, 0⟩] scope pos) 0 it (.ref D) env) R s := (by exact use_of : Use _ (by
 first
 | (
  refine codeAny_loop rfl I (fun n s hI => ?_) n h
  show wpAny _ A ((compTurn (.DictComp kx vx [⟨target, iter, ifs, 0⟩] scope pos) 0 it (.ref D) env).onRaise (fun x => do noteFrame x env; theTreesLotGoes x)) _ _ s
  refine wpAny_noted ?_
  rw [compTurn_dict]
  refine wpAny_bind (wpAny_standAt (wpAny_bind (wpAny_mono (turn n s hI) (fun r s₁ h₁ => ?_) fun _ _ h' => h')))
  cases r with
  | none => exact wpAny_pure h₁
  | some v =>
    refine wpAny_bind (wpAny_mono h₁ (fun _ s₀ h₀' => ?_) fun _ _ h' => h')
    refine wpAny_bind (wpAny_mono h₀' (fun _ s₂ h₂ => wpAny_bind (wpAny_mono h₂ (fun ok s₃ h₃ => ?_) fun _ _ h' => h')) fun _ _ h' => h')
    cases ok with
    | false => exact wpAny_pure ⟨rfl, h₃⟩
    | true =>
      exact wpAny_bind (wpAny_bind (wpAny_mono h₃ (fun kv s₄ h₄ => wpAny_bind (wpAny_holding (wpAny_mono h₄ (fun vv s₅ h₅ => wpAny_bind (wpAny_standAt (wpAny_holding (wpAny_mono h₅ (fun _ s₆ h₆ => wpAny_pure ⟨rfl, h₆⟩) fun _ _ h' => h')))) fun _ _ h' => h'))) fun _ _ h' => h')))
 | fail))

abbrev Asg := (Str → Option Value) → Prop
abbrev MTests (prog : Program) (w : World) (A : Around) (ifs : List PySem.Expr) (env : Env) (Q : Bool → Shared → Prop) (E : Value → Shared → Prop) (s : Shared) : Prop :=
  wpAny (model prog w) A (forIn ifs true fun c r => if r = true then do let ok ← isTrue c env (eval c env); pure (ForInStep.yield ok) else pure (ForInStep.yield r)) Q E s

/-- what is left to do of a list's comprehension -/
def McL (prog : Program) (w : World) (A : Around) (h₀ : Heap) (L : Addr) (m : Str → Option Value) (env : Env) (elt : PySem.Expr) (ifs : List PySem.Expr) (scope : Scope) (cl : List (Str × Addr)) (s : Shared) (S : Led → Prop)
    (Fin : List Value → Led → Prop) : List Asg → List Value → Led → Prop
  | [], ys, news => Fin ys news
  | asg :: r, ys, news => ∀ I oI C oC D m₂ h tk (E' : Value → Shared → Prop), NsObj oC m₂ → asg m₂ → Fr h₀ L h m → News h₀ L h ((I, oI) :: (C, oC) :: (D, lst ys) :: news) → Off3 I C D news → ((@Ne Nat I C) ∧ (@Ne Nat I D) ∧ (@Ne Nat C D)) →
      MTests prog w A ifs (compEnvC scope cl C env) (fun ok s₃ => if ok = true then
          wpAny (model prog w) A (eval elt (compEnvC scope cl C env)) (CompEnd h₀ L m { s with heap := h, toks := tk } I oI C oC D (lst ys) S (fun y news' => McL prog w A h₀ L m env elt ifs scope cl s S Fin r (ys ++ [y]) news')) E' s₃
        else CompEnd h₀ L m { s with heap := h, toks := tk } I oI C oC D (lst ys) S (fun _ news' => McL prog w A h₀ L m env elt ifs scope cl s S Fin r ys news') .none s₃) E' { s with heap := h, toks := tk }

/-- the end of a dict's turn: the key is a new text -/
def DEnd (h₀ : Heap) (L : Addr) (m : Str → Option Value) (s₁ : Shared) (I : Addr) (oI : Obj) (C : Addr) (oC : Obj) (D : Addr) (oD : Obj) (S : Led → Prop) (kvs : List (Str × Value)) (rest : List (Str × Value) → Led → Prop) (kv y : Value) (s₂ : Shared) : Prop :=
  ∃ k t, kv = .str k t ∧ CompEnd h₀ L m s₁ I oI C oC D oD S (fun y news' => rest (stored kvs k y) news') y s₂
theorem DEnd.intro {h₀ : Heap} {L : Addr} {m : Str → Option Value} {s₁ : Shared} {I : Addr} {oI : Obj} {C : Addr} {oC : Obj} {D : Addr} {oD : Obj} {S : Led → Prop} {kvs : List (Str × Value)} {rest : List (Str × Value) → Led → Prop} {k : Str} {t : Tok} {y : Value} {s₂ : Shared}
    (h : CompEnd h₀ L m s₁ I oI C oC D oD S (fun y news' => rest (stored kvs k y) news') y s₂) : DEnd h₀ L m s₁ I oI C oC D oD S kvs rest (.str k t) y s₂ := ⟨k, t, rfl, h⟩

def McD (prog : Program) (w : World) (A : Around) (h₀ : Heap) (L : Addr) (m : Str → Option Value) (env : Env) (kx vx : PySem.Expr) (ifs : List PySem.Expr) (scope : Scope) (cl : List (Str × Addr)) (s : Shared) (S : Led → Prop)
    (Fin : List (Str × Value) → Led → Prop) : List Asg → List (Str × Value) → Led → Prop
  | [], kvs, news => Fin kvs news
  | asg :: r, kvs, news => ∀ I oI C oC D oD m₂ h tk (E' : Value → Shared → Prop), NsObj oC m₂ → asg m₂ → Fr h₀ L h m → News h₀ L h ((I, oI) :: (C, oC) :: (D, oD) :: news) → Off3 I C D news → ((@Ne Nat I C) ∧ (@Ne Nat I D) ∧ (@Ne Nat C D)) →
      MTests prog w A ifs (compEnvC scope cl C env) (fun ok s₃ => if ok = true then
          wpAny (model prog w) A (eval kx (compEnvC scope cl C env)) (fun kv s₄ => wpAny (model prog w) A (eval vx (compEnvC scope cl C env)) (DEnd h₀ L m { s with heap := h, toks := tk } I oI C oC D oD S kvs (fun kvs' news' => McD prog w A h₀ L m env kx vx ifs scope cl s S Fin r kvs' news') kv) E' s₄) E' s₃
        else CompEnd h₀ L m { s with heap := h, toks := tk } I oI C oC D oD S (fun _ news' => McD prog w A h₀ L m env kx vx ifs scope cl s S Fin r kvs news') .none s₃) E' { s with heap := h, toks := tk }

inductive BlkL (prog : Program) (w : World) (A : Around) (h₀ : Heap) (L : Addr) (m : Str → Option Value) (env : Env) (elt : PySem.Expr) (ifs : List PySem.Expr) (scope : Scope) (cl : List (Str × Addr)) (s₂ : Shared) (n : Nat) (St : Nat → Heap → Prop) (S : Led → Prop) (Fin : List Value → Led → Prop) (items : List Asg) (I D C : Addr) (k : Nat) (s' : Shared) : Prop
  | mk (h' : Heap) (tk : Nat) (i : Nat) (ys : List Value) (m' : Str → Option Value) (news' : Led) (c0 : s' = { s₂ with heap := h', toks := tk }) (c1 : i ≤ n) (c2 : k = n + 1 - i) (c3 : ys.length ≤ i) (c4 : St i h') (c5 : Fr h₀ L h' m) (c6 : h'.Ns C m') (c7 : News h₀ L h' ((D, lst ys) :: news')) (c8 : Off3 I C D news') (c9 : S news') (c10 : McL prog w A h₀ L m env elt ifs scope cl s₂ S Fin (items.drop i) ys news')
theorem mc_blockL {elt iter target : PySem.Expr} {ifs : List PySem.Expr} {scope : Scope} {cl : List (Str × Addr)} {pos : Pos} {s₂ : Shared} {I : Addr} {fp : List Addr} {n : Nat} {P Md : Nat → Value → Heap → Prop} {St : Nat → Heap → Prop} {S : Led → Prop} {news : Led} {items : List Asg}
    {Fin : List Value → Led → Prop} {RR : Value → Addr → Result → Shared → Prop}
    (W : KTurns prog w A target I fp [I] n P Md St) (hself : ∀ (s : Shared) (Q : Value → Shared → Prop) (E : Value → Shared → Prop), St 0 s.heap → Q (.ref I) s → wpAny (model prog w) A (pyIter (.ref I)) Q E s)
    (hsz : n ≤ sizeLine) (hlen : items.length = n) (hIo : ∀ i h, St i h → ∃ o, h.get? I = some o)
    (hSt : ∀ i h h' o nw, St i h → h.get? I = some o → h'.get? I = some o → (∀ b o, h₀.get? b = some o → h'.get? b = some o) → News h₀ L h' nw → S nw → St i h')
    (hasg : ∀ i v (C : Addr) (m' : Str → Option Value) asg (s' : Shared) (Q' : Unit → Shared → Prop) (E' : Value → Shared → Prop), items[i]? = some asg → P i v s'.heap → s'.heap.Ns C m' → (∀ b o, h₀.get? b = some o → s'.heap.get? b = some o) →
      (∀ h' tk m₂, h'.Ns C m₂ → asg m₂ → (∀ c o, c ≠ C → s'.heap.get? c = some o → h'.get? c = some o) → Q' () { s' with heap := h', toks := tk }) → wpAny (model prog w) A (assign target (compEnvC scope cl C env) v) Q' E' s')
    (hcell : ∀ y ∈ scope.names, y.2 ≠ .cell) (hkind : scope.kind = .function) (hst : St 0 s₂.heap) (hfp : ∀ b ∈ fp, b < s₂.heap.objs.size)
    (F : Fr h₀ L s₂.heap m) (N : News h₀ L s₂.heap news) (hIL : L ≠ I) (hI₀ : h₀.get? I = none) (off : ∀ p ∈ news, p.1 ≠ I) (hS : S news)
    (R : McL prog w A h₀ L m env elt ifs scope cl s₂ S Fin items [] news)
    (hRR : ∀ D C h tk m' ys news', Fr h₀ L h m → News h₀ L h ((D, lst ys) :: news') → Off1 D news' → h.Ns C m' → h₀.get? C = none → h₀.get? D = none → C ≠ L → D ≠ L → C ≠ D → (∀ p ∈ news', p.1 ≠ C) → Fin ys news' → RR (.ref D) C (.ok .next) { s₂ with heap := h, toks := tk }) :
    wpAny (model prog w) A (newList []) (fun acc s₃ => wpAny (model prog w) A (newFunctionEnv scope env.globals cl [] env.qual none .none (some env)) (fun cenv s₄ =>
      codeAny (model prog w) A (.compStart (.ListComp elt [⟨target, iter, ifs, 0⟩] scope pos) 0 (.ref I) acc { cenv with scope := relabel scope env }) (RR acc cenv.locals) s₄) E s₃) E s₂ := (by exact use_of : Use _ (by
 first
 | (
  refine wpAny_newObj_type (wpAny_newFunctionEnv hcell (by intro y hy; simp at hy) (fun h₁ hns₁ hsb₁ => ?_) hkind)
  dsimp only at hns₁ hsb₁ ⊢
  generalize hH2 : s₂.heap.push { cls := .type "list", dict := none, data := .seq ([] : List Value).toArray } = H2 at hns₁ hsb₁ ⊢
  have hC : H2.objs.size = s₂.heap.objs.size + 1 := by rw [← hH2, Heap.size_push]
  have hDC : s₂.heap.objs.size ≠ H2.objs.size := by rw [hC]; exact Nat.ne_of_lt (Nat.lt_succ_self _)
  have below : ∀ b, b < s₂.heap.objs.size → b ≠ H2.objs.size ∧ b ≠ s₂.heap.objs.size := fun b hb => ⟨by rw [hC]; exact Nat.ne_of_lt (Nat.lt_succ_of_lt hb), Nat.ne_of_lt hb⟩
  have hDf : s₂.heap.objs.size ∉ fp := fun hm => Nat.lt_irrefl _ (hfp _ hm)
  have hCf : H2.objs.size ∉ fp := fun hm => by have := hfp _ hm; rw [hC] at this; exact Nat.lt_irrefl _ (Nat.lt_of_succ_lt this)
  have hIf : I ∈ fp := W.sub I (List.mem_singleton.mpr rfl)
  have hIlt : I < s₂.heap.objs.size := hfp I hIf
  have old : ∀ b o, s₂.heap.get? b = some o → h₁.get? b = some o := fun b o e => hsb₁.extBut b o (below b (Heap.lt_size e)).1 (Heap.get?_push_of_some _ (hH2 ▸ Heap.get?_push_of_some _ e))
  have hacc : h₁.get? s₂.heap.objs.size = some (lst []) := hsb₁.extBut _ _ hDC (Heap.get?_push_of_some _ (hH2 ▸ Heap.get?_push_size _ rfl))
  have hst₁ : St 0 h₁ := W.frame _ _ _ hst fun b _ o e => old b o e
  have fresh : ∀ a, s₂.heap.objs.size ≤ a → s₂.heap.get? a = none := fun a ha => by
    cases e : s₂.heap.get? a with
    | none => rfl
    | some o' => exact absurd (Heap.lt_size e) (Nat.not_lt.mpr ha)
  have fresh₀ : ∀ a, s₂.heap.objs.size ≤ a → h₀.get? a = none := fun a ha => by
    cases e : h₀.get? a with
    | none => rfl
    | some o' => have := F.keep a o' e; rw [fresh a ha] at this; cases this
  have hD₀ : h₀.get? s₂.heap.objs.size = none := fresh₀ _ (Nat.le_refl _)
  have hC₀ : h₀.get? H2.objs.size = none := fresh₀ _ (by rw [hC]; exact Nat.le_succ _)
  have hLlt : L < s₂.heap.objs.size := F.ns.lt
  have hDL : s₂.heap.objs.size ≠ L := Ne.symm (below L hLlt).2
  have hCL : H2.objs.size ≠ L := Ne.symm (below L hLlt).1
  have hCI : I ≠ H2.objs.size := (below I hIlt).1
  have hDI : I ≠ s₂.heap.objs.size := (below I hIlt).2
  have off₀ : Off3 I H2.objs.size s₂.heap.objs.size news := Off3.of fun p hp => ⟨off p hp, (below _ (Heap.lt_size (N p hp).1)).1, (below _ (Heap.lt_size (N p hp).1)).2⟩
  have loop : ∀ s₃ : Shared, s₃ = { s₂ with heap := h₁, toks := s₂.toks + ([] : List (Str × Value)).length } →
      codeAny (model prog w) A (.compLoop (.ListComp elt [⟨target, iter, ifs, 0⟩] scope pos) 0 (.ref I) (.ref s₂.heap.objs.size) (compEnvC scope cl H2.objs.size env))
        (RR (.ref s₂.heap.objs.size) H2.objs.size) s₃ := by
    rintro s₃ rfl
    refine mc_loopL
      (fun k s' => BlkL prog w A h₀ L m env elt ifs scope cl s₂ n St S Fin items I s₂.heap.objs.size H2.objs.size k s') ?_ (n + 1)
      ⟨h₁, _, 0, [], _, news, rfl, Nat.zero_le _, rfl, Nat.le_refl _, hst₁, F.keeps old, hns₁, fun p hp => ?_, off₀, hS, by rw [List.drop_zero]; exact R⟩
    · rintro k s' ⟨h', tk, i, ys, m', news', rfl, hi, rfl, hyl, hst', F', hn', N', off', hS', R'⟩
      have off3 := off'.mem
      by_cases hlt : i < n
      · refine W.item i _ _ _ hlt hst' fun v h₂ tk₂ hMd hk₂ => ?_
        refine W.go i v _ _ _ hMd fun h₃ hP hst₃ hk₃ => ?_
        have up₃ : ∀ c o, c ≠ I → h'.get? c = some o → h₃.get? c = some o := fun c o hc e => hk₃ c o (by simpa using hc) (hk₂ c o (by simpa using hc) e)
        have hi' : i < items.length := by omega
        refine hasg i v H2.objs.size m' items[i] { s₂ with heap := h₃, toks := tk₂ } _ _ (List.getElem?_eq_getElem hi') hP (hn'.at' fun o e => up₃ _ o (Ne.symm hCI) e) (fun b o e => up₃ b o (fun q => by rw [q, hI₀] at e; cases e) (F'.keep b o e)) fun h₄ tk₄ m₄ hn₄ hasg4 hs₄ => ?_
        have up : ∀ c o, c ≠ I → c ≠ H2.objs.size → h'.get? c = some o → h₄.get? c = some o := fun c o h1 h2 e => hs₄ c o h2 (up₃ c o h1 e)
        have hst₄ : St (i + 1) h₄ := W.frame _ _ _ hst₃ fun b hb o e => hs₄ b o (fun q => hCf (by have q' : b = H2.objs.size := q; rw [← q']; exact hb)) e
        obtain ⟨oI, heI⟩ := hIo _ _ hst₄
        obtain ⟨oC, heC, hoC⟩ := ns_obj hn₄
        have F₄ : Fr h₀ L h₄ m := ⟨F'.ns.at' fun o e => up _ o hIL (Ne.symm hCL) e, fun c o e => up c o (fun q => by rw [q, hI₀] at e; cases e) (fun q => by rw [q, hC₀] at e; cases e) (F'.keep c o e), F'.above⟩
        have hdrop : items.drop i = items[i] :: items.drop (i + 1) := List.drop_eq_getElem_cons hi'
        have R'' : McL prog w A h₀ L m env elt ifs scope cl s₂ S Fin (items[i] :: items.drop (i + 1)) ys news' := by rw [← hdrop]; exact R'
        have N₄ : News h₀ L h₄ ((I, oI) :: (H2.objs.size, oC) :: (s₂.heap.objs.size, lst ys) :: news') := fun q hq => by
          rcases List.mem_cons.mp hq with rfl | hq
          · exact ⟨heI, Ne.symm hIL, hI₀⟩
          · rcases List.mem_cons.mp hq with rfl | hq
            · exact ⟨heC, hCL, hC₀⟩
            · have z := N' q hq
              refine ⟨up _ _ ?_ ?_ z.1, z.2⟩
              · rcases List.mem_cons.mp hq with rfl | hq
                · exact Ne.symm hDI
                · exact (off3 q hq).1
              · rcases List.mem_cons.mp hq with rfl | hq
                · exact hDC
                · exact (off3 q hq).2.1
        refine wpAny_mono (R'' I oI H2.objs.size oC s₂.heap.objs.size _ h₄ _ _ hoC hasg4 F₄ N₄ off' ⟨hCI, hDI, Ne.symm hDC⟩) (fun ok s₃' h₃ => ?_) fun _ _ e => e
        cases ok with
        | false =>
        have h₅ := h₃
        obtain ⟨h₅, tk₅, news₅, rfl, F₅, N₅, off₅, hS₅, R₅⟩ := h₅
        have zI := (N₅ (I, oI) List.mem_cons_self).1
        have zC := (N₅ (H2.objs.size, oC) (List.mem_cons_of_mem _ List.mem_cons_self)).1
        have zD := (N₅ (s₂.heap.objs.size, lst ys) (List.mem_cons_of_mem _ (List.mem_cons_of_mem _ List.mem_cons_self))).1
        have N₅' : News h₀ L h₅ news₅ := fun q hq => N₅ q (List.mem_cons_of_mem _ (List.mem_cons_of_mem _ (List.mem_cons_of_mem _ hq)))
        have off5 := off₅.mem
        have hst₅ : St (i + 1) h₅ := hSt _ _ _ _ _ hst₄ heI zI F₅.keep N₅' hS₅
        exact ⟨n + 1 - (i + 1), by omega, h₅, tk₅, i + 1, ys, _, news₅, rfl, hlt, rfl, Nat.le_succ_of_le hyl, hst₅, F₅, hoC.ns zC, fun q hq => by
            rcases List.mem_cons.mp hq with rfl | hq
            · exact ⟨zD, hDL, hD₀⟩
            · exact N₅' q hq, off₅, hS₅, R₅⟩
        | true =>
        refine wpAny_mono h₃ (fun y s₅ h₅ => ?_) fun _ _ e => e
        obtain ⟨h₅, tk₅, news₅, rfl, F₅, N₅, off₅, hS₅, R₅⟩ := h₅
        have zI := (N₅ (I, oI) List.mem_cons_self).1
        have zC := (N₅ (H2.objs.size, oC) (List.mem_cons_of_mem _ List.mem_cons_self)).1
        have zD := (N₅ (s₂.heap.objs.size, lst ys) (List.mem_cons_of_mem _ (List.mem_cons_of_mem _ List.mem_cons_self))).1
        have N₅' : News h₀ L h₅ news₅ := fun q hq => N₅ q (List.mem_cons_of_mem _ (List.mem_cons_of_mem _ (List.mem_cons_of_mem _ hq)))
        have off5 := off₅.mem
        have hst₅ : St (i + 1) h₅ := hSt _ _ _ _ _ hst₄ heI zI F₅.keep N₅' hS₅
        refine append_at (hsz := by show ys.toArray.size ≤ sizeLine; rw [List.size_toArray]; exact Nat.le_trans hyl (Nat.le_trans hi hsz)) zD fun h₆ hs₆ hD₆ => ?_
        refine ⟨n + 1 - (i + 1), by omega, h₆, tk₅, i + 1, ys ++ [y], _, news₅, rfl, hlt, rfl, by rw [List.length_append, List.length_singleton]; omega, W.frame _ _ _ hst₅ fun b hb o e => hs₆.extBut b o (fun q => hDf (q ▸ hb)) e, F₅.change hs₆ hDL hD₀,
          (hoC.ns zC).sameBut hs₆ (Ne.symm hDC), fun q hq => ?_, off₅, hS₅, R₅⟩
        rcases List.mem_cons.mp hq with rfl | hq
        · exact ⟨hD₆.trans (congrArg some (lst_snoc ys y)), hDL, hD₀⟩
        · exact ⟨hs₆.extBut _ _ (off5 q hq).2.2 (N₅' q hq).1, (N₅' q hq).2⟩
      · have hin : i = n := Nat.le_antisymm hi (Nat.not_lt.mp hlt)
        subst hin
        have hnil : items.drop i = [] := List.drop_eq_nil_of_le (Nat.le_of_eq hlen)
        rw [hnil] at R'
        refine W.done _ _ _ hst' fun h₂ tk₂ hk₂ => ?_
        exact hRR _ _ h₂ tk₂ _ ys news' (fr_but F' hk₂ hIL hI₀) (news_but N' hk₂ fun p hp => by
          rcases List.mem_cons.mp hp with rfl | hp
          · exact Ne.symm hDI
          · exact (off3 p hp).1) off'.one (hn'.at' fun o e => hk₂ _ o (by simpa using Ne.symm hCI) e) hC₀ hD₀ hCL hDL (Ne.symm hDC) (fun p hp => (off3 p hp).2.1) R'
    · rcases List.mem_cons.mp hp with rfl | hp
      · exact ⟨hacc, hDL, hD₀⟩
      · exact ⟨old _ _ (N p hp).1, (N p hp).2⟩
  exact codeAny_compStart_list (loop _ rfl) (hself _ _ _ hst₁ (loop _ rfl)))
 | fail))

inductive BlkD (prog : Program) (w : World) (A : Around) (h₀ : Heap) (L : Addr) (m : Str → Option Value) (env : Env) (kx vx : PySem.Expr) (ifs : List PySem.Expr) (scope : Scope) (cl : List (Str × Addr)) (s₂ : Shared) (n : Nat) (St : Nat → Heap → Prop) (S : Led → Prop) (Fin : List (Str × Value) → Led → Prop) (items : List Asg) (I D C : Addr) (k : Nat) (s' : Shared) : Prop
  | mk (h' : Heap) (tk : Nat) (i : Nat) (ys : List (Str × Value)) (oD : Obj) (m' : Str → Option Value) (news' : Led) (c0 : s' = { s₂ with heap := h', toks := tk }) (c1 : i ≤ n) (c2 : k = n + 1 - i) (c3 : ys.length ≤ i) (c4 : oD.IsDictOf (strKind prog w) ys) (c5 : St i h') (c6 : Fr h₀ L h' m) (c7 : h'.Ns C m') (c8 : News h₀ L h' ((D, oD) :: news')) (c9 : Off3 I C D news') (c10 : S news') (c11 : McD prog w A h₀ L m env kx vx ifs scope cl s₂ S Fin (items.drop i) ys news')
theorem mc_blockD {kx vx iter target : PySem.Expr} {ifs : List PySem.Expr} {scope : Scope} {cl : List (Str × Addr)} {pos : Pos} {s₂ : Shared} {I : Addr} {fp : List Addr} {n : Nat} {P Md : Nat → Value → Heap → Prop} {St : Nat → Heap → Prop} {S : Led → Prop} {news : Led} {items : List Asg}
    {Fin : List (Str × Value) → Led → Prop} {RR : Value → Addr → Result → Shared → Prop}
    (W : KTurns prog w A target I fp [I] n P Md St) (hself : ∀ (s : Shared) (Q : Value → Shared → Prop) (E : Value → Shared → Prop), St 0 s.heap → Q (.ref I) s → wpAny (model prog w) A (pyIter (.ref I)) Q E s)
    (hsz : n ≤ sizeLine) (hlen : items.length = n) (hIo : ∀ i h, St i h → ∃ o, h.get? I = some o)
    (hSt : ∀ i h h' o nw, St i h → h.get? I = some o → h'.get? I = some o → (∀ b o, h₀.get? b = some o → h'.get? b = some o) → News h₀ L h' nw → S nw → St i h')
    (hasg : ∀ i v (C : Addr) (m' : Str → Option Value) asg (s' : Shared) (Q' : Unit → Shared → Prop) (E' : Value → Shared → Prop), items[i]? = some asg → P i v s'.heap → s'.heap.Ns C m' → (∀ b o, h₀.get? b = some o → s'.heap.get? b = some o) →
      (∀ h' tk m₂, h'.Ns C m₂ → asg m₂ → (∀ c o, c ≠ C → s'.heap.get? c = some o → h'.get? c = some o) → Q' () { s' with heap := h', toks := tk }) → wpAny (model prog w) A (assign target (compEnvC scope cl C env) v) Q' E' s')
    (hcell : ∀ y ∈ scope.names, y.2 ≠ .cell) (hkind : scope.kind = .function) (hst : St 0 s₂.heap) (hfp : ∀ b ∈ fp, b < s₂.heap.objs.size)
    (F : Fr h₀ L s₂.heap m) (N : News h₀ L s₂.heap news) (hIL : L ≠ I) (hI₀ : h₀.get? I = none) (off : ∀ p ∈ news, p.1 ≠ I) (hS : S news)
    (R : McD prog w A h₀ L m env kx vx ifs scope cl s₂ S Fin items [] news)
    (hRR : ∀ D C h tk m' ys oD news', oD.IsDictOf (strKind prog w) ys → Fr h₀ L h m → News h₀ L h ((D, oD) :: news') → Off1 D news' → h.Ns C m' → h₀.get? C = none → h₀.get? D = none → C ≠ L → D ≠ L → C ≠ D → (∀ p ∈ news', p.1 ≠ C) → Fin ys news' → RR (.ref D) C (.ok .next) { s₂ with heap := h, toks := tk }) :
    wpAny (model prog w) A (newDict) (fun acc s₃ => wpAny (model prog w) A (newFunctionEnv scope env.globals cl [] env.qual none .none (some env)) (fun cenv s₄ =>
      codeAny (model prog w) A (.compStart (.DictComp kx vx [⟨target, iter, ifs, 0⟩] scope pos) 0 (.ref I) acc { cenv with scope := relabel scope env }) (RR acc cenv.locals) s₄) E s₃) E s₂ := (by exact use_of : Use _ (by
 first
 | (
  refine wpAny_newObj_type (wpAny_newFunctionEnv hcell (by intro y hy; simp at hy) (fun h₁ hns₁ hsb₁ => ?_) hkind)
  dsimp only at hns₁ hsb₁ ⊢
  generalize hH2 : s₂.heap.push { cls := .type "dict", dict := none, data := .dict #[] } = H2 at hns₁ hsb₁ ⊢
  have hC : H2.objs.size = s₂.heap.objs.size + 1 := by rw [← hH2, Heap.size_push]
  have hDC : s₂.heap.objs.size ≠ H2.objs.size := by rw [hC]; exact Nat.ne_of_lt (Nat.lt_succ_self _)
  have below : ∀ b, b < s₂.heap.objs.size → b ≠ H2.objs.size ∧ b ≠ s₂.heap.objs.size := fun b hb => ⟨by rw [hC]; exact Nat.ne_of_lt (Nat.lt_succ_of_lt hb), Nat.ne_of_lt hb⟩
  have hDf : s₂.heap.objs.size ∉ fp := fun hm => Nat.lt_irrefl _ (hfp _ hm)
  have hCf : H2.objs.size ∉ fp := fun hm => by have := hfp _ hm; rw [hC] at this; exact Nat.lt_irrefl _ (Nat.lt_of_succ_lt this)
  have hIf : I ∈ fp := W.sub I (List.mem_singleton.mpr rfl)
  have hIlt : I < s₂.heap.objs.size := hfp I hIf
  have old : ∀ b o, s₂.heap.get? b = some o → h₁.get? b = some o := fun b o e => hsb₁.extBut b o (below b (Heap.lt_size e)).1 (Heap.get?_push_of_some _ (hH2 ▸ Heap.get?_push_of_some _ e))
  have hnew : H2.DictOf (strKind prog w) s₂.heap.objs.size [] := hH2 ▸ Heap.DictOf.new s₂.heap
  obtain ⟨oD0, hoD0, hD0⟩ := Heap.dictOf_iff.mp hnew
  have hacc : h₁.get? s₂.heap.objs.size = some oD0 := hsb₁.extBut _ _ hDC (Heap.get?_push_of_some _ hoD0)
  have hst₁ : St 0 h₁ := W.frame _ _ _ hst fun b _ o e => old b o e
  have fresh : ∀ a, s₂.heap.objs.size ≤ a → s₂.heap.get? a = none := fun a ha => by
    cases e : s₂.heap.get? a with
    | none => rfl
    | some o' => exact absurd (Heap.lt_size e) (Nat.not_lt.mpr ha)
  have fresh₀ : ∀ a, s₂.heap.objs.size ≤ a → h₀.get? a = none := fun a ha => by
    cases e : h₀.get? a with
    | none => rfl
    | some o' => have := F.keep a o' e; rw [fresh a ha] at this; cases this
  have hD₀ : h₀.get? s₂.heap.objs.size = none := fresh₀ _ (Nat.le_refl _)
  have hC₀ : h₀.get? H2.objs.size = none := fresh₀ _ (by rw [hC]; exact Nat.le_succ _)
  have hLlt : L < s₂.heap.objs.size := F.ns.lt
  have hDL : s₂.heap.objs.size ≠ L := Ne.symm (below L hLlt).2
  have hCL : H2.objs.size ≠ L := Ne.symm (below L hLlt).1
  have hCI : I ≠ H2.objs.size := (below I hIlt).1
  have hDI : I ≠ s₂.heap.objs.size := (below I hIlt).2
  have off₀ : Off3 I H2.objs.size s₂.heap.objs.size news := Off3.of fun p hp => ⟨off p hp, (below _ (Heap.lt_size (N p hp).1)).1, (below _ (Heap.lt_size (N p hp).1)).2⟩
  have loop : ∀ s₃ : Shared, s₃ = { s₂ with heap := h₁, toks := s₂.toks + ([] : List (Str × Value)).length } →
      codeAny (model prog w) A (.compLoop (.DictComp kx vx [⟨target, iter, ifs, 0⟩] scope pos) 0 (.ref I) (.ref s₂.heap.objs.size) (compEnvC scope cl H2.objs.size env))
        (RR (.ref s₂.heap.objs.size) H2.objs.size) s₃ := by
    rintro s₃ rfl
    refine mc_loopD
      (fun k s' => BlkD prog w A h₀ L m env kx vx ifs scope cl s₂ n St S Fin items I s₂.heap.objs.size H2.objs.size k s') ?_ (n + 1)
      ⟨h₁, _, 0, [], oD0, _, news, rfl, Nat.zero_le _, rfl, Nat.le_refl _, hD0, hst₁, F.keeps old, hns₁, fun p hp => ?_, off₀, hS, by rw [List.drop_zero]; exact R⟩
    · rintro k s' ⟨h', tk, i, ys, oD, m', news', rfl, hi, rfl, hyl, hDo, hst', F', hn', N', off', hS', R'⟩
      have off3 := off'.mem
      by_cases hlt : i < n
      · refine W.item i _ _ _ hlt hst' fun v h₂ tk₂ hMd hk₂ => ?_
        refine W.go i v _ _ _ hMd fun h₃ hP hst₃ hk₃ => ?_
        have up₃ : ∀ c o, c ≠ I → h'.get? c = some o → h₃.get? c = some o := fun c o hc e => hk₃ c o (by simpa using hc) (hk₂ c o (by simpa using hc) e)
        have hi' : i < items.length := by omega
        refine hasg i v H2.objs.size m' items[i] { s₂ with heap := h₃, toks := tk₂ } _ _ (List.getElem?_eq_getElem hi') hP (hn'.at' fun o e => up₃ _ o (Ne.symm hCI) e) (fun b o e => up₃ b o (fun q => by rw [q, hI₀] at e; cases e) (F'.keep b o e)) fun h₄ tk₄ m₄ hn₄ hasg4 hs₄ => ?_
        have up : ∀ c o, c ≠ I → c ≠ H2.objs.size → h'.get? c = some o → h₄.get? c = some o := fun c o h1 h2 e => hs₄ c o h2 (up₃ c o h1 e)
        have hst₄ : St (i + 1) h₄ := W.frame _ _ _ hst₃ fun b hb o e => hs₄ b o (fun q => hCf (by have q' : b = H2.objs.size := q; rw [← q']; exact hb)) e
        obtain ⟨oI, heI⟩ := hIo _ _ hst₄
        obtain ⟨oC, heC, hoC⟩ := ns_obj hn₄
        have F₄ : Fr h₀ L h₄ m := ⟨F'.ns.at' fun o e => up _ o hIL (Ne.symm hCL) e, fun c o e => up c o (fun q => by rw [q, hI₀] at e; cases e) (fun q => by rw [q, hC₀] at e; cases e) (F'.keep c o e), F'.above⟩
        have hdrop : items.drop i = items[i] :: items.drop (i + 1) := List.drop_eq_getElem_cons hi'
        have R'' : McD prog w A h₀ L m env kx vx ifs scope cl s₂ S Fin (items[i] :: items.drop (i + 1)) ys news' := by rw [← hdrop]; exact R'
        have N₄ : News h₀ L h₄ ((I, oI) :: (H2.objs.size, oC) :: (s₂.heap.objs.size, oD) :: news') := fun q hq => by
          rcases List.mem_cons.mp hq with rfl | hq
          · exact ⟨heI, Ne.symm hIL, hI₀⟩
          · rcases List.mem_cons.mp hq with rfl | hq
            · exact ⟨heC, hCL, hC₀⟩
            · have z := N' q hq
              refine ⟨up _ _ ?_ ?_ z.1, z.2⟩
              · rcases List.mem_cons.mp hq with rfl | hq
                · exact Ne.symm hDI
                · exact (off3 q hq).1
              · rcases List.mem_cons.mp hq with rfl | hq
                · exact hDC
                · exact (off3 q hq).2.1
        refine wpAny_mono (R'' I oI H2.objs.size oC s₂.heap.objs.size oD _ h₄ _ _ hoC hasg4 F₄ N₄ off' ⟨hCI, hDI, Ne.symm hDC⟩) (fun ok s₃' h₃ => ?_) fun _ _ e => e
        cases ok with
        | false =>
        have h₅ := h₃
        obtain ⟨h₅, tk₅, news₅, rfl, F₅, N₅, off₅, hS₅, R₅⟩ := h₅
        have zI := (N₅ (I, oI) List.mem_cons_self).1
        have zC := (N₅ (H2.objs.size, oC) (List.mem_cons_of_mem _ List.mem_cons_self)).1
        have zD := (N₅ (s₂.heap.objs.size, oD) (List.mem_cons_of_mem _ (List.mem_cons_of_mem _ List.mem_cons_self))).1
        have N₅' : News h₀ L h₅ news₅ := fun q hq => N₅ q (List.mem_cons_of_mem _ (List.mem_cons_of_mem _ (List.mem_cons_of_mem _ hq)))
        have off5 := off₅.mem
        have hst₅ : St (i + 1) h₅ := hSt _ _ _ _ _ hst₄ heI zI F₅.keep N₅' hS₅
        exact ⟨n + 1 - (i + 1), by omega, h₅, tk₅, i + 1, ys, oD, _, news₅, rfl, hlt, rfl, Nat.le_succ_of_le hyl, hDo, hst₅, F₅, hoC.ns zC, fun q hq => by
            rcases List.mem_cons.mp hq with rfl | hq
            · exact ⟨zD, hDL, hD₀⟩
            · exact N₅' q hq, off₅, hS₅, R₅⟩
        | true =>
        refine wpAny_mono h₃ (fun kv s₄' h₄' => wpAny_mono h₄' (fun y s₅ h₅ => ?_) fun _ _ e => e) fun _ _ e => e
        obtain ⟨kk, tkk, rfl, h₅⟩ := h₅
        obtain ⟨h₅, tk₅, news₅, rfl, F₅, N₅, off₅, hS₅, R₅⟩ := h₅
        have zI := (N₅ (I, oI) List.mem_cons_self).1
        have zC := (N₅ (H2.objs.size, oC) (List.mem_cons_of_mem _ List.mem_cons_self)).1
        have zD := (N₅ (s₂.heap.objs.size, oD) (List.mem_cons_of_mem _ (List.mem_cons_of_mem _ List.mem_cons_self))).1
        have N₅' : News h₀ L h₅ news₅ := fun q hq => N₅ q (List.mem_cons_of_mem _ (List.mem_cons_of_mem _ (List.mem_cons_of_mem _ hq)))
        have off5 := off₅.mem
        have hst₅ : St (i + 1) h₅ := hSt _ _ _ _ _ hst₄ heI zI F₅.keep N₅' hS₅
        refine wpAny_dictSet_pairs (knd := strKind prog w) (k := kk) (hsz := Nat.le_trans hyl (Nat.le_trans hi hsz)) (beq_self_eq_true kk) (Heap.dictOf_iff.mpr ⟨oD, zD, hDo⟩) fun h₆ hl₆ hs₆ => ?_
        obtain ⟨oD', zD', hDo'⟩ := Heap.dictOf_iff.mp hl₆
        refine ⟨n + 1 - (i + 1), by omega, h₆, _, i + 1, stored ys kk y, oD', _, news₅, rfl, hlt, rfl, by have := stored_length_le ys kk y; omega, hDo', W.frame _ _ _ hst₅ fun b hb o e => hs₆.extBut b o (fun q => hDf (q ▸ hb)) e, F₅.change hs₆ hDL hD₀,
          (hoC.ns zC).sameBut hs₆ (Ne.symm hDC), fun q hq => ?_, off₅, hS₅, R₅⟩
        rcases List.mem_cons.mp hq with rfl | hq
        · exact ⟨zD', hDL, hD₀⟩
        · exact ⟨hs₆.extBut _ _ (off5 q hq).2.2 (N₅' q hq).1, (N₅' q hq).2⟩
      · have hin : i = n := Nat.le_antisymm hi (Nat.not_lt.mp hlt)
        subst hin
        have hnil : items.drop i = [] := List.drop_eq_nil_of_le (Nat.le_of_eq hlen)
        rw [hnil] at R'
        refine W.done _ _ _ hst' fun h₂ tk₂ hk₂ => ?_
        exact hRR _ _ h₂ tk₂ _ ys oD news' hDo (fr_but F' hk₂ hIL hI₀) (news_but N' hk₂ fun p hp => by
          rcases List.mem_cons.mp hp with rfl | hp
          · exact Ne.symm hDI
          · exact (off3 p hp).1) off'.one (hn'.at' fun o e => hk₂ _ o (by simpa using Ne.symm hCI) e) hC₀ hD₀ hCL hDL (Ne.symm hDC) (fun p hp => (off3 p hp).2.1) R'
    · rcases List.mem_cons.mp hp with rfl | hp
      · exact ⟨hacc, hDL, hD₀⟩
      · exact ⟨old _ _ (N p hp).1, (N p hp).2⟩
  exact codeAny_compStart_dict (loop _ rfl) (hself _ _ _ hst₁ (loop _ rfl)))
 | fail))
end comp
section comp
open PyProof.Rows.LCg
variable {prog : Program} {w : World} {A : Around} {E : Value → Shared → Prop} {s : Shared} {h₀ : Heap} {L : Addr} {m : Str → Option Value} {env : Env}

def HasgOf (prog : Program) (w : World) (A : Around) (h₀ : Heap) (env : Env) (target : PySem.Expr) (scope : Scope) (cl : List (Str × Addr)) (P : Nat → Value → Heap → Prop) (items : List Asg) : Prop :=
  ∀ i v (C : Addr) (m' : Str → Option Value) asg (s' : Shared) (Q' : Unit → Shared → Prop) (E' : Value → Shared → Prop), items[i]? = some asg → P i v s'.heap → s'.heap.Ns C m' → (∀ b o, h₀.get? b = some o → s'.heap.get? b = some o) →
      (∀ h' tk m₂, h'.Ns C m₂ → asg m₂ → (∀ c o, c ≠ C → s'.heap.get? c = some o → h'.get? c = some o) → Q' () { s' with heap := h', toks := tk }) → wpAny (model prog w) A (assign target (compEnvC scope cl C env) v) Q' E' s'

inductive MItL (prog : Program) (w : World) (A : Around) (h₀ : Heap) (L : Addr) (m : Str → Option Value) (env : Env) (elt : PySem.Expr) (target : PySem.Expr) (ifs : List PySem.Expr) (scope : Scope) (cl : List (Str × Addr)) (Fin : Shared → List Value → Led → Prop) (it : Value) (s₂ : Shared) : Prop
  | mk (I : Addr) (fp : List Addr) (n : Nat) (P Md : Nat → Value → Heap → Prop) (St : Nat → Heap → Prop) (S : Led → Prop) (news : Led) (items : List Asg) (c0 : it = .ref I) (c1 : KTurns prog w A target I fp [I] n P Md St) (c2 : (∀ (s : Shared) (Q : Value → Shared → Prop) (E : Value → Shared → Prop), St 0 s.heap → Q (.ref I) s → wpAny (model prog w) A (pyIter (.ref I)) Q E s)) (c3 : n ≤ sizeLine) (c4 : items.length = n) (c5 : (∀ i h, St i h → ∃ o, h.get? I = some o)) (c6 : (∀ i h h' o nw, St i h → h.get? I = some o → h'.get? I = some o → (∀ b o, h₀.get? b = some o → h'.get? b = some o) → News h₀ L h' nw → S nw → St i h')) (c7 : HasgOf prog w A h₀ env target scope cl P items) (c8 : St 0 s₂.heap) (c9 : (∀ b ∈ fp, b < s₂.heap.objs.size)) (c10 : Fr h₀ L s₂.heap m) (c11 : News h₀ L s₂.heap news) (c12 : L ≠ I) (c13 : h₀.get? I = none) (c14 : (∀ p ∈ news, p.1 ≠ I)) (c15 : S news) (c16 : McL prog w A h₀ L m env elt ifs scope cl s₂ S (Fin s₂) items [] news)
def MSrcL (prog : Program) (w : World) (A : Around) (E : Value → Shared → Prop) (h₀ : Heap) (L : Addr) (m : Str → Option Value) (env : Env) (elt : PySem.Expr) (target : PySem.Expr) (ifs : List PySem.Expr) (scope : Scope) (cl : List (Str × Addr)) (Fin : Shared → List Value → Led → Prop) (xv : Value) (s₁ : Shared) : Prop :=
  wpAny (model prog w) A (pyIter xv) (MItL prog w A h₀ L m env elt target ifs scope cl Fin) E s₁

theorem MSrcL.tup {elt target : PySem.Expr} {ifs : List PySem.Expr} {scope : Scope} {cl : List (Str × Addr)} {Fin : Shared → List Value → Led → Prop} {ax : Addr} {its : Array Value} {items : List Asg} {news : Led} {s₁ : Shared}
    (hh : A.handled = none) (F : Fr h₀ L s₁.heap m) (N : News h₀ L s₁.heap news) (hl : h₀.IsTuple ax its) (hsz : its.size ≤ sizeLine) (hlen : items.length = its.size) (hasg : HasgOf prog w A h₀ env target scope cl (fun i v _ => its[i]? = some v) items)
    (h : ∀ g, McL prog w A h₀ L m env elt ifs scope cl { s₁ with heap := g } (fun _ => True) (Fin { s₁ with heap := g }) items [] news) : MSrcL prog w A E h₀ L m env elt target ifs scope cl Fin (.ref ax) s₁ := (by exact use_of : Use _ (by
 first
 | (
  have hl' : s₁.heap.IsTuple ax its := hl.at fun o e => F.keep _ _ e
  have hlt : ax < s₁.heap.objs.size := by obtain ⟨_, e, _⟩ := hl'; exact Heap.lt_size e
  have up : ∀ b o, s₁.heap.get? b = some o → (s₁.heap.push { cls := .type "tuple_iterator", data := .fields #[.ref ax, .int 0 0] }).get? b = some o := fun b o e => Heap.get?_push_of_some _ e
  refine wpAny_pyIter_tuple hl' ⟨s₁.heap.objs.size, _, _, _, _, _, fun _ => True, news, items, rfl, KTurns.ofWalks (Walks.tuple hh s₁.heap.objs.size ax (Nat.ne_of_lt hlt) its) (fun i v s Q E st q => letGo_tupleiter st.1 q), fun s Q E st q => wpAny_pyIter_tupleiter st.1 q, hsz, hlen,
    fun i h st => by obtain ⟨o, e, _⟩ := st.1; exact ⟨o, e⟩, ?_, hasg, ⟨⟨_, Heap.get?_push_size _ rfl, rfl, rfl⟩, hl'.at fun o e => up _ _ e⟩, ?_, F.keeps up, N.grown up, Nat.ne_of_lt F.ns.lt, next_is_new F, fun p hp => Nat.ne_of_lt (Heap.lt_size (N p hp).1), trivial, h _⟩
  · intro i h h' o nw st e e' k _ _
    exact ⟨by obtain ⟨o', q, r⟩ := st.1; rw [e] at q; cases q; exact ⟨o, e', r⟩, hl.at fun o e => k _ _ e⟩
  · intro b hb
    show b < (s₁.heap.push _).objs.size
    rw [Heap.size_push]
    rcases List.mem_cons.mp hb with rfl | hb
    · exact Nat.lt_succ_self _
    · rw [List.mem_singleton.mp hb]; exact Nat.lt_succ_of_lt hlt)
 | fail))

theorem MSrcL.list {elt target : PySem.Expr} {ifs : List PySem.Expr} {scope : Scope} {cl : List (Str × Addr)} {Fin : Shared → List Value → Led → Prop} {ax : Addr} {its : Array Value} {items : List Asg} {news : Led} {s₁ : Shared}
    (hh : A.handled = none) (F : Fr h₀ L s₁.heap m) (N : News h₀ L s₁.heap news) (hl : SrcAt h₀ ax its news) (hsz : its.size ≤ sizeLine) (hlen : items.length = its.size) (hasg : HasgOf prog w A h₀ env target scope cl (fun i v _ => its[i]? = some v) items)
    (h : ∀ g, McL prog w A h₀ L m env elt ifs scope cl { s₁ with heap := g } (SrcAt h₀ ax its) (Fin { s₁ with heap := g }) items [] news) : MSrcL prog w A E h₀ L m env elt target ifs scope cl Fin (.ref ax) s₁ := (by exact use_of : Use _ (by
 first
 | (
  have hl' : s₁.heap.IsList ax its := hl.list F.keep N
  have hlt : ax < s₁.heap.objs.size := by obtain ⟨_, e, _⟩ := hl'; exact Heap.lt_size e
  have up : ∀ b o, s₁.heap.get? b = some o → (s₁.heap.push { cls := .type "list_iterator", data := .fields #[.ref ax, .int 0 0] }).get? b = some o := fun b o e => Heap.get?_push_of_some _ e
  refine wpAny_pyIter_list hl' ⟨s₁.heap.objs.size, _, _, _, _, _, SrcAt h₀ ax its, news, items, rfl, KTurns.ofWalks (Walks.list hh s₁.heap.objs.size ax (Nat.ne_of_lt hlt) its) (fun i v s Q E st q => letGo_listiter st.1 q), fun s Q E st q => (Walks.list hh s₁.heap.objs.size ax (Nat.ne_of_lt hlt) its).self 0 s Q E st q, hsz, hlen,
    fun i h st => by obtain ⟨o, e, _⟩ := st.1; exact ⟨o, e⟩, list_st, hasg, ⟨⟨_, Heap.get?_push_size _ rfl, rfl, rfl⟩, hl'.push _⟩, ?_, F.keeps up, N.grown up, Nat.ne_of_lt F.ns.lt, next_is_new F, fun p hp => Nat.ne_of_lt (Heap.lt_size (N p hp).1), hl, h _⟩
  intro b hb
  show b < (s₁.heap.push _).objs.size
  rw [Heap.size_push]
  rcases List.mem_cons.mp hb with rfl | hb
  · exact Nat.lt_succ_self _
  · rw [List.mem_singleton.mp hb]; exact Nat.lt_succ_of_lt hlt)
 | fail))

theorem MSrcL.range {elt target : PySem.Expr} {ifs : List PySem.Expr} {scope : Scope} {cl : List (Str × Addr)} {Fin : Shared → List Value → Led → Prop} {r : Addr} {a b c : Int} {t u v : Tok} {n : Nat} {items : List Asg} {news : Led} {s₁ : Shared} (hgo : ∀ (it v : Value), letOwnedTupleGo target it v = pure ())
    (hh : A.handled = none) (F : Fr h₀ L s₁.heap m) (N : News h₀ L s₁.heap news) (hr : IsRange s₁.heap r a b c t u v) (hsm : Builtin.Range.small a b c = true) (hn : Builtin.Range.rangeSize a b c = ((n : Nat) : Int)) (hsz : n ≤ sizeLine) (hlen : items.length = n)
    (hasg : HasgOf prog w A h₀ env target scope cl (fun i v _ => ∃ t, v = .int (a + (i : Int) * c) t) items)
    (h : ∀ g, McL prog w A h₀ L m env elt ifs scope cl { s₁ with heap := g } (fun _ => True) (Fin { s₁ with heap := g }) items [] news) : MSrcL prog w A E h₀ L m env elt target ifs scope cl Fin (.ref r) s₁ := (by exact use_of : Use _ (by
 first
 | (
  have up : ∀ b' o, s₁.heap.get? b' = some o → (s₁.heap.push { cls := .type "range_iterator", data := .fields #[rawInt a, rawInt (Builtin.Range.rangeSize a b c), rawInt c] }).get? b' = some o := fun b o e => Heap.get?_push_of_some _ e
  refine wpAny_pyIter_range hr hsm ⟨s₁.heap.objs.size, _, _, _, _, _, fun _ => True, news, items, rfl, KTurns.ofWalks (Walks.range hh s₁.heap.objs.size a c n) (fun i v s Q E st q => wpAny_of_eq (hgo _ _) q), fun s Q E st q => (Walks.range hh s₁.heap.objs.size a c n).self 0 s Q E st q, hsz, hlen,
    fun i h st => ⟨_, st⟩, ?_, hasg, ?_, ?_, F.keeps up, N.grown up, Nat.ne_of_lt F.ns.lt, next_is_new F, fun p hp => Nat.ne_of_lt (Heap.lt_size (N p hp).1), trivial, h _⟩
  · intro i h h' o nw st e e' _ _ _
    have st' : h.get? s₁.heap.objs.size = some _ := st
    show h'.get? s₁.heap.objs.size = some _
    rw [e', ← e]; exact st'
  · show IsRangeIter _ _ _ _ _
    rw [hn]
    simpa using Heap.get?_push_size _ rfl
  · intro b hb
    rw [List.mem_singleton.mp hb]
    show s₁.heap.objs.size < (s₁.heap.push _).objs.size
    rw [Heap.size_push]; exact Nat.lt_succ_self _)
 | fail))

theorem mcE_L {elt iter target : PySem.Expr} {ifs : List PySem.Expr} {scope : Scope} {cl : List (Str × Addr)} {pos : Pos} {Q : Value → Shared → Prop} (_F₀ : Fr h₀ L s.heap m)
    (hclos : closureFor scope env = pure cl) (hcell : ∀ y ∈ scope.names, y.2 ≠ .cell) (hkind : scope.kind = .function)
    (hnames : ∀ y ∈ scope.names, y.2 = .local → scope.names.lookup y.1 = some .local)
    (h : wpAny (model prog w) A (eval iter env) (MSrcL prog w A E h₀ L m env elt target ifs scope cl (fun s₂ => FinE h₀ L m s₂ Q)) E s)
    (hs : ∀ x, foldedSetIterable iter env x = pure x := by intro _; rfl) :
    wpAny (model prog w) A (eval (.ListComp elt [⟨target, iter, ifs, 0⟩] scope pos) env) Q E s := (by exact use_of : Use _ (by
 first
 | (
  rw [eval_ListComp]
  refine wpAny_comprehension_free (use := none) rfl hs hclos hkind hnames (wpAny_mono h (fun xv s₁ h₁ => wpAny_mono h₁ (fun it s₂ h₂ => ?_) fun _ _ e => e) fun _ _ e => e)
  obtain ⟨I, fp, n, P, Md, St, S, news, items, rfl, W, hself, hsz, hlen, hIo, hSt, hasg, hst, hfp, F, N, hIL, hI₀, off, hS, R⟩ := h₂
  refine mc_blockL W hself hsz hlen hIo hSt hasg hcell hkind hst hfp F N hIL hI₀ off hS R ?_
  intro D C h tk m' ys news' F' N' o1 hn hC₀ hD₀ hCL hDL hCD offC fin
  refine ⟨m', hn, fun h'' hs'' => fin D h'' tk (F'.change hs'' hCL hC₀) (fun p hp => ?_) o1⟩
  refine ⟨hs''.extBut _ _ ?_ (N' p hp).1, (N' p hp).2⟩
  rcases List.mem_cons.mp hp with rfl | hp
  · exact Ne.symm hCD
  · exact offC p hp)
 | fail))

inductive MItD (prog : Program) (w : World) (A : Around) (h₀ : Heap) (L : Addr) (m : Str → Option Value) (env : Env) (kx vx : PySem.Expr) (target : PySem.Expr) (ifs : List PySem.Expr) (scope : Scope) (cl : List (Str × Addr)) (Fin : Shared → List (Str × Value) → Led → Prop) (it : Value) (s₂ : Shared) : Prop
  | mk (I : Addr) (fp : List Addr) (n : Nat) (P Md : Nat → Value → Heap → Prop) (St : Nat → Heap → Prop) (S : Led → Prop) (news : Led) (items : List Asg) (c0 : it = .ref I) (c1 : KTurns prog w A target I fp [I] n P Md St) (c2 : (∀ (s : Shared) (Q : Value → Shared → Prop) (E : Value → Shared → Prop), St 0 s.heap → Q (.ref I) s → wpAny (model prog w) A (pyIter (.ref I)) Q E s)) (c3 : n ≤ sizeLine) (c4 : items.length = n) (c5 : (∀ i h, St i h → ∃ o, h.get? I = some o)) (c6 : (∀ i h h' o nw, St i h → h.get? I = some o → h'.get? I = some o → (∀ b o, h₀.get? b = some o → h'.get? b = some o) → News h₀ L h' nw → S nw → St i h')) (c7 : HasgOf prog w A h₀ env target scope cl P items) (c8 : St 0 s₂.heap) (c9 : (∀ b ∈ fp, b < s₂.heap.objs.size)) (c10 : Fr h₀ L s₂.heap m) (c11 : News h₀ L s₂.heap news) (c12 : L ≠ I) (c13 : h₀.get? I = none) (c14 : (∀ p ∈ news, p.1 ≠ I)) (c15 : S news) (c16 : McD prog w A h₀ L m env kx vx ifs scope cl s₂ S (Fin s₂) items [] news)
def MSrcD (prog : Program) (w : World) (A : Around) (E : Value → Shared → Prop) (h₀ : Heap) (L : Addr) (m : Str → Option Value) (env : Env) (kx vx : PySem.Expr) (target : PySem.Expr) (ifs : List PySem.Expr) (scope : Scope) (cl : List (Str × Addr)) (Fin : Shared → List (Str × Value) → Led → Prop) (xv : Value) (s₁ : Shared) : Prop :=
  wpAny (model prog w) A (pyIter xv) (MItD prog w A h₀ L m env kx vx target ifs scope cl Fin) E s₁

theorem MSrcD.tup {kx vx target : PySem.Expr} {ifs : List PySem.Expr} {scope : Scope} {cl : List (Str × Addr)} {Fin : Shared → List (Str × Value) → Led → Prop} {ax : Addr} {its : Array Value} {items : List Asg} {news : Led} {s₁ : Shared}
    (hh : A.handled = none) (F : Fr h₀ L s₁.heap m) (N : News h₀ L s₁.heap news) (hl : h₀.IsTuple ax its) (hsz : its.size ≤ sizeLine) (hlen : items.length = its.size) (hasg : HasgOf prog w A h₀ env target scope cl (fun i v _ => its[i]? = some v) items)
    (h : ∀ g, McD prog w A h₀ L m env kx vx ifs scope cl { s₁ with heap := g } (fun _ => True) (Fin { s₁ with heap := g }) items [] news) : MSrcD prog w A E h₀ L m env kx vx target ifs scope cl Fin (.ref ax) s₁ := (by exact use_of : Use _ (by
 first
 | (
  have hl' : s₁.heap.IsTuple ax its := hl.at fun o e => F.keep _ _ e
  have hlt : ax < s₁.heap.objs.size := by obtain ⟨_, e, _⟩ := hl'; exact Heap.lt_size e
  have up : ∀ b o, s₁.heap.get? b = some o → (s₁.heap.push { cls := .type "tuple_iterator", data := .fields #[.ref ax, .int 0 0] }).get? b = some o := fun b o e => Heap.get?_push_of_some _ e
  refine wpAny_pyIter_tuple hl' ⟨s₁.heap.objs.size, _, _, _, _, _, fun _ => True, news, items, rfl, KTurns.ofWalks (Walks.tuple hh s₁.heap.objs.size ax (Nat.ne_of_lt hlt) its) (fun i v s Q E st q => letGo_tupleiter st.1 q), fun s Q E st q => wpAny_pyIter_tupleiter st.1 q, hsz, hlen,
    fun i h st => by obtain ⟨o, e, _⟩ := st.1; exact ⟨o, e⟩, ?_, hasg, ⟨⟨_, Heap.get?_push_size _ rfl, rfl, rfl⟩, hl'.at fun o e => up _ _ e⟩, ?_, F.keeps up, N.grown up, Nat.ne_of_lt F.ns.lt, next_is_new F, fun p hp => Nat.ne_of_lt (Heap.lt_size (N p hp).1), trivial, h _⟩
  · intro i h h' o nw st e e' k _ _
    exact ⟨by obtain ⟨o', q, r⟩ := st.1; rw [e] at q; cases q; exact ⟨o, e', r⟩, hl.at fun o e => k _ _ e⟩
  · intro b hb
    show b < (s₁.heap.push _).objs.size
    rw [Heap.size_push]
    rcases List.mem_cons.mp hb with rfl | hb
    · exact Nat.lt_succ_self _
    · rw [List.mem_singleton.mp hb]; exact Nat.lt_succ_of_lt hlt)
 | fail))

theorem MSrcD.list {kx vx target : PySem.Expr} {ifs : List PySem.Expr} {scope : Scope} {cl : List (Str × Addr)} {Fin : Shared → List (Str × Value) → Led → Prop} {ax : Addr} {its : Array Value} {items : List Asg} {news : Led} {s₁ : Shared}
    (hh : A.handled = none) (F : Fr h₀ L s₁.heap m) (N : News h₀ L s₁.heap news) (hl : SrcAt h₀ ax its news) (hsz : its.size ≤ sizeLine) (hlen : items.length = its.size) (hasg : HasgOf prog w A h₀ env target scope cl (fun i v _ => its[i]? = some v) items)
    (h : ∀ g, McD prog w A h₀ L m env kx vx ifs scope cl { s₁ with heap := g } (SrcAt h₀ ax its) (Fin { s₁ with heap := g }) items [] news) : MSrcD prog w A E h₀ L m env kx vx target ifs scope cl Fin (.ref ax) s₁ := (by exact use_of : Use _ (by
 first
 | (
  have hl' : s₁.heap.IsList ax its := hl.list F.keep N
  have hlt : ax < s₁.heap.objs.size := by obtain ⟨_, e, _⟩ := hl'; exact Heap.lt_size e
  have up : ∀ b o, s₁.heap.get? b = some o → (s₁.heap.push { cls := .type "list_iterator", data := .fields #[.ref ax, .int 0 0] }).get? b = some o := fun b o e => Heap.get?_push_of_some _ e
  refine wpAny_pyIter_list hl' ⟨s₁.heap.objs.size, _, _, _, _, _, SrcAt h₀ ax its, news, items, rfl, KTurns.ofWalks (Walks.list hh s₁.heap.objs.size ax (Nat.ne_of_lt hlt) its) (fun i v s Q E st q => letGo_listiter st.1 q), fun s Q E st q => (Walks.list hh s₁.heap.objs.size ax (Nat.ne_of_lt hlt) its).self 0 s Q E st q, hsz, hlen,
    fun i h st => by obtain ⟨o, e, _⟩ := st.1; exact ⟨o, e⟩, list_st, hasg, ⟨⟨_, Heap.get?_push_size _ rfl, rfl, rfl⟩, hl'.push _⟩, ?_, F.keeps up, N.grown up, Nat.ne_of_lt F.ns.lt, next_is_new F, fun p hp => Nat.ne_of_lt (Heap.lt_size (N p hp).1), hl, h _⟩
  intro b hb
  show b < (s₁.heap.push _).objs.size
  rw [Heap.size_push]
  rcases List.mem_cons.mp hb with rfl | hb
  · exact Nat.lt_succ_self _
  · rw [List.mem_singleton.mp hb]; exact Nat.lt_succ_of_lt hlt)
 | fail))

theorem MSrcD.range {kx vx target : PySem.Expr} {ifs : List PySem.Expr} {scope : Scope} {cl : List (Str × Addr)} {Fin : Shared → List (Str × Value) → Led → Prop} {r : Addr} {a b c : Int} {t u v : Tok} {n : Nat} {items : List Asg} {news : Led} {s₁ : Shared} (hgo : ∀ (it v : Value), letOwnedTupleGo target it v = pure ())
    (hh : A.handled = none) (F : Fr h₀ L s₁.heap m) (N : News h₀ L s₁.heap news) (hr : IsRange s₁.heap r a b c t u v) (hsm : Builtin.Range.small a b c = true) (hn : Builtin.Range.rangeSize a b c = ((n : Nat) : Int)) (hsz : n ≤ sizeLine) (hlen : items.length = n)
    (hasg : HasgOf prog w A h₀ env target scope cl (fun i v _ => ∃ t, v = .int (a + (i : Int) * c) t) items)
    (h : ∀ g, McD prog w A h₀ L m env kx vx ifs scope cl { s₁ with heap := g } (fun _ => True) (Fin { s₁ with heap := g }) items [] news) : MSrcD prog w A E h₀ L m env kx vx target ifs scope cl Fin (.ref r) s₁ := (by exact use_of : Use _ (by
 first
 | (
  have up : ∀ b' o, s₁.heap.get? b' = some o → (s₁.heap.push { cls := .type "range_iterator", data := .fields #[rawInt a, rawInt (Builtin.Range.rangeSize a b c), rawInt c] }).get? b' = some o := fun b o e => Heap.get?_push_of_some _ e
  refine wpAny_pyIter_range hr hsm ⟨s₁.heap.objs.size, _, _, _, _, _, fun _ => True, news, items, rfl, KTurns.ofWalks (Walks.range hh s₁.heap.objs.size a c n) (fun i v s Q E st q => wpAny_of_eq (hgo _ _) q), fun s Q E st q => (Walks.range hh s₁.heap.objs.size a c n).self 0 s Q E st q, hsz, hlen,
    fun i h st => ⟨_, st⟩, ?_, hasg, ?_, ?_, F.keeps up, N.grown up, Nat.ne_of_lt F.ns.lt, next_is_new F, fun p hp => Nat.ne_of_lt (Heap.lt_size (N p hp).1), trivial, h _⟩
  · intro i h h' o nw st e e' _ _ _
    have st' : h.get? s₁.heap.objs.size = some _ := st
    show h'.get? s₁.heap.objs.size = some _
    rw [e', ← e]; exact st'
  · show IsRangeIter _ _ _ _ _
    rw [hn]
    simpa using Heap.get?_push_size _ rfl
  · intro b hb
    rw [List.mem_singleton.mp hb]
    show s₁.heap.objs.size < (s₁.heap.push _).objs.size
    rw [Heap.size_push]; exact Nat.lt_succ_self _)
 | fail))

def FinDE (prog : Program) (w : World) (h₀ : Heap) (L : Addr) (m : Str → Option Value) (s : Shared) (Q : Value → Shared → Prop) (kvs : List (Str × Value)) (news : Led) : Prop :=
  ∀ D oD h tk, oD.IsDictOf (strKind prog w) kvs → Fr h₀ L h m → News h₀ L h ((D, oD) :: news) → Off1 D news → Q (.ref D) { s with heap := h, toks := tk }
def FinDA (prog : Program) (w : World) (h₀ : Heap) (L : Addr) (m : Str → Option Value) (s : Shared) (y : Str) (Q : Flow → Shared → Prop) (kvs : List (Str × Value)) (news : Led) : Prop :=
  ∀ D oD h tk, oD.IsDictOf (strKind prog w) kvs → Fr h₀ L h (fun z => if z = y then some (.ref D) else m z) → News h₀ L h ((D, oD) :: news) → Off1 D news → Q .next { s with heap := h, toks := tk }
theorem mcE_D {kx vx iter target : PySem.Expr} {ifs : List PySem.Expr} {scope : Scope} {cl : List (Str × Addr)} {pos : Pos} {Q : Value → Shared → Prop} (_F₀ : Fr h₀ L s.heap m)
    (hclos : closureFor scope env = pure cl) (hcell : ∀ y ∈ scope.names, y.2 ≠ .cell) (hkind : scope.kind = .function)
    (hnames : ∀ y ∈ scope.names, y.2 = .local → scope.names.lookup y.1 = some .local)
    (h : wpAny (model prog w) A (eval iter env) (MSrcD prog w A E h₀ L m env kx vx target ifs scope cl (fun s₂ => FinDE prog w h₀ L m s₂ Q)) E s)
    (hs : ∀ x, foldedSetIterable iter env x = pure x := by intro _; rfl) :
    wpAny (model prog w) A (eval (.DictComp kx vx [⟨target, iter, ifs, 0⟩] scope pos) env) Q E s := (by exact use_of : Use _ (by
 first
 | (
  rw [arm_eval_DictComp]
  refine wpAny_comprehension_free (use := none) rfl hs hclos hkind hnames (wpAny_mono h (fun xv s₁ h₁ => wpAny_mono h₁ (fun it s₂ h₂ => ?_) fun _ _ e => e) fun _ _ e => e)
  obtain ⟨I, fp, n, P, Md, St, S, news, items, rfl, W, hself, hsz, hlen, hIo, hSt, hasg, hst, hfp, F, N, hIL, hI₀, off, hS, R⟩ := h₂
  refine mc_blockD W hself hsz hlen hIo hSt hasg hcell hkind hst hfp F N hIL hI₀ off hS R ?_
  intro D C h tk m' ys oD news' hDo F' N' o1 hn hC₀ hD₀ hCL hDL hCD offC fin
  refine ⟨m', hn, fun h'' hs'' => fin D oD h'' tk hDo (F'.change hs'' hCL hC₀) (fun p hp => ?_) o1⟩
  refine ⟨hs''.extBut _ _ ?_ (N' p hp).1, (N' p hp).2⟩
  rcases List.mem_cons.mp hp with rfl | hp
  · exact Ne.symm hCD
  · exact offC p hp)
 | fail))
theorem mcA_D {kx vx iter target : PySem.Expr} {y : Str} {py : Pos} {ifs : List PySem.Expr} {scope : Scope} {cl : List (Str × Addr)} {pos spos : Pos} {Q : Flow → Shared → Prop} (_F₀ : Fr h₀ L s.heap m) (hLe : env.locals = L)
    (hsw : swapsWith (.DictComp kx vx [⟨target, iter, ifs, 0⟩] scope pos) (some (.Name y py)) spos.line env = pure true)
    (hclos : closureFor scope env = pure cl) (hcell : ∀ z ∈ scope.names, z.2 ≠ .cell) (hkind : scope.kind = .function)
    (hnames : ∀ z ∈ scope.names, z.2 = .local → scope.names.lookup z.1 = some .local)
    (hy : env.kindOf y = some .local) (hp : (env.scope.kind == .class || (env.scope.kind == .module && env.locals != env.globals)) = false)
    (h : wpAny (model prog w) A (eval iter env) (MSrcD prog w A E h₀ L m env kx vx target ifs scope cl (fun s₂ => FinDA prog w h₀ L m s₂ y Q)) E s)
    (hs : ∀ x, foldedSetIterable iter env x = pure x := by intro _; rfl) :
    wpAny (model prog w) A (exec (.Assign [.Name y py] (.DictComp kx vx [⟨target, iter, ifs, 0⟩] scope pos) spos) env) Q E s := (by exact use_of : Use _ (by
 first
 | (
  subst hLe
  rw [exec_Assign_Name_used _ _ _ _ hsw]
  refine wpAny_bind (wpAny_standAt (wpAny_bind ?_))
  show wpAny _ A (do let _ ← comprehension (.DictComp kx vx [⟨target, iter, ifs, 0⟩] scope pos) scope env _ newDict false (eval iter env) (some (assign (.Name y py) env))) _ _ s
  refine wpAny_bind (wpAny_mono (wpAny_comprehension_free (use := some (assign (.Name y py) env)) (Q := fun _ s' => Q .next s') rfl hs hclos hkind hnames
    (wpAny_mono h (fun xv s₁ h₁ => wpAny_mono h₁ (fun it s₂ h₂ => ?_) fun _ _ e => e) fun _ _ e => e)) (fun _ s' hq => wpAny_pure (wpAny_pure hq)) fun _ _ e => e)
  obtain ⟨I, fp, n, P, Md, St, S, news, items, rfl, W, hself, hsz, hlen, hIo, hSt, hasg, hst, hfp, F, N, hIL, hI₀, off, hS, R⟩ := h₂
  refine mc_blockD W hself hsz hlen hIo hSt hasg hcell hkind hst hfp F N hIL hI₀ off hS R ?_
  intro D C h tk m' ys oD news' hDo F' N' o1 hn hC₀ hD₀ hCL hDL hCD offC fin
  show wpAny _ A (assign (.Name y py) env (.ref D)) _ _ _
  refine wpAny_assign_Name (wpAny_storeName_local hy F'.ns (fun h₂ hn₂ hs₂ => ?_) hp)
  have hL₀ : h₀.get? env.locals = none := Heap.get?_none_of_le F'.above
  have F₂ : Fr h₀ env.locals h₂ (fun z => if z = y then some (.ref D) else m z) := ⟨hn₂, fun b o e => hs₂.extBut b o (fun q => by rw [q, hL₀] at e; cases e) (F'.keep b o e), F'.above⟩
  refine ⟨m', hn.sameBut hs₂ hCL, fun h'' hs'' => fin D oD h'' _ hDo (F₂.change hs'' hCL hC₀) (fun p hp => ?_) o1⟩
  have z : h₂.get? p.1 = some p.2 := hs₂.extBut _ _ (N' p hp).2.1 (N' p hp).1
  refine ⟨hs''.extBut _ _ ?_ z, (N' p hp).2⟩
  rcases List.mem_cons.mp hp with rfl | hp
  · exact Ne.symm hCD
  · exact offC p hp)
 | fail))

/-- a name as the target -/
theorem asg_name {scope : Scope} {cl : List (Str × Addr)} {x : Str} {px : Pos} {P : Nat → Value → Heap → Prop} {items : List Asg} (hkind : scope.kind = .function) (hx : scope.names.lookup x = some .local)
    (hP : ∀ i v h asg, items[i]? = some asg → P i v h → ∀ m₂ : Str → Option Value, m₂ x = some v → asg m₂) : HasgOf prog w A h₀ env (.Name x px) scope cl P items := by
  intro i v C m' asg s' Q' E' hi hp hn hk h
  refine wpAny_assign_Name (wpAny_storeName_local (lookup_relabel_local hx) hn (fun h₂ hn₂ hs₂ => ?_) (by simp [compEnvC, relabel, hkind]))
  exact h h₂ _ _ hn₂ (hP i v _ asg hi hp _ (by simp)) fun c o hc e => hs₂.extBut c o hc e
theorem asg_pair {scope : Scope} {cl : List (Str × Addr)} {a b : Str} {pa pb tp : Pos} {kk : Nat} {P : Nat → Value → Heap → Prop} {items : List Asg} (hh : A.handled = none) (hkind : scope.kind = .function) (ha : scope.names.lookup a = some .local) (hb : scope.names.lookup b = some .local) (hab : ¬ a = b)
    (hP : ∀ i v h asg, items[i]? = some asg → P i v h → (∀ b o, h₀.get? b = some o → h.get? b = some o) → ∃ T x y, v = .ref T ∧ h.IsTuple T #[x, y] ∧ ∀ m₂ : Str → Option Value, m₂ a = some x → m₂ b = some y → asg m₂) :
    HasgOf prog w A h₀ env (.Tuple [.Name a pa, .Name b pb] kk tp) scope cl P items := (by exact use_of : Use _ (by
 first
 | (
  intro i v C m' asg s' Q' E' hi hp hn hk h
  obtain ⟨T, x, y, rfl, hT, hm⟩ := hP i v _ asg hi hp hk
  refine kcp_assign (env := compEnvC scope cl C env) hh hT (lookup_relabel_local ha) (lookup_relabel_local hb) (by simp [compEnvC, relabel, hkind]) hn fun h' tk hn' hs' => ?_
  exact h h' tk _ hn' (hm _ (by simp [hab]) (by simp)) hs')
 | fail))

theorem McL.done {elt : PySem.Expr} {ifs : List PySem.Expr} {scope : Scope} {cl : List (Str × Addr)} {S : Led → Prop} {Fin : List Value → Led → Prop} {ys : List Value} {news : Led} (h : Fin ys news) : McL prog w A h₀ L m env elt ifs scope cl s S Fin [] ys news := h
theorem McL.turn {elt : PySem.Expr} {scope : Scope} {cl : List (Str × Addr)} {S : Led → Prop} {Fin : List Value → Led → Prop} {asg : Asg} {r : List Asg} {ys : List Value} {news : Led}
    (h : ∀ I oI C oC D m₂ h tk (E' : Value → Shared → Prop), NsObj oC m₂ → asg m₂ → Fr h₀ L h m → News h₀ L h ((I, oI) :: (C, oC) :: (D, lst ys) :: news) → Off3 I C D news → ((@Ne Nat I C) ∧ (@Ne Nat I D) ∧ (@Ne Nat C D)) →
      wpAny (model prog w) A (eval elt (compEnvC scope cl C env)) (CompEnd h₀ L m { s with heap := h, toks := tk } I oI C oC D (lst ys) S (fun y news' => McL prog w A h₀ L m env elt [] scope cl s S Fin r (ys ++ [y]) news')) E' { s with heap := h, toks := tk }) :
    McL prog w A h₀ L m env elt [] scope cl s S Fin (asg :: r) ys news :=
  fun I oI C oC D m₂ hp tk E' h1 h2 h3 h4 h5 h6 => wpAny_tests_nil (by rw [if_pos rfl]; exact h I oI C oC D m₂ hp tk E' h1 h2 h3 h4 h5 h6)
theorem McL.turnT {elt c : PySem.Expr} {scope : Scope} {cl : List (Str × Addr)} {S : Led → Prop} {Fin : List Value → Led → Prop} {asg : Asg} {r : List Asg} {ys : List Value} {news : Led}
    (h : ∀ I oI C oC D m₂ h tk (E' : Value → Shared → Prop), NsObj oC m₂ → asg m₂ → Fr h₀ L h m → News h₀ L h ((I, oI) :: (C, oC) :: (D, lst ys) :: news) → Off3 I C D news → ((@Ne Nat I C) ∧ (@Ne Nat I D) ∧ (@Ne Nat C D)) →
      wpAny (model prog w) A (isTrue c (compEnvC scope cl C env) (eval c (compEnvC scope cl C env))) (fun ok s₃ => if ok = true then wpAny (model prog w) A (eval elt (compEnvC scope cl C env)) (CompEnd h₀ L m { s with heap := h, toks := tk } I oI C oC D (lst ys) S (fun y news' => McL prog w A h₀ L m env elt [c] scope cl s S Fin r (ys ++ [y]) news')) E' s₃
        else CompEnd h₀ L m { s with heap := h, toks := tk } I oI C oC D (lst ys) S (fun _ news' => McL prog w A h₀ L m env elt [c] scope cl s S Fin r ys news') .none s₃) E' { s with heap := h, toks := tk }) :
    McL prog w A h₀ L m env elt [c] scope cl s S Fin (asg :: r) ys news :=
  fun I oI C oC D m₂ hp tk E' h1 h2 h3 h4 h5 h6 => wpAny_tests_one (h I oI C oC D m₂ hp tk E' h1 h2 h3 h4 h5 h6)
theorem McD.done {kx vx : PySem.Expr} {ifs : List PySem.Expr} {scope : Scope} {cl : List (Str × Addr)} {S : Led → Prop} {Fin : List (Str × Value) → Led → Prop} {ys : List (Str × Value)} {news : Led} (h : Fin ys news) : McD prog w A h₀ L m env kx vx ifs scope cl s S Fin [] ys news := h
theorem McD.turn {kx vx : PySem.Expr} {scope : Scope} {cl : List (Str × Addr)} {S : Led → Prop} {Fin : List (Str × Value) → Led → Prop} {asg : Asg} {r : List Asg} {kvs : List (Str × Value)} {news : Led}
    (h : ∀ I oI C oC D oD m₂ h tk (E' : Value → Shared → Prop), NsObj oC m₂ → asg m₂ → Fr h₀ L h m → News h₀ L h ((I, oI) :: (C, oC) :: (D, oD) :: news) → Off3 I C D news → ((@Ne Nat I C) ∧ (@Ne Nat I D) ∧ (@Ne Nat C D)) →
      wpAny (model prog w) A (eval kx (compEnvC scope cl C env)) (fun kv s₄ => wpAny (model prog w) A (eval vx (compEnvC scope cl C env)) (DEnd h₀ L m { s with heap := h, toks := tk } I oI C oC D oD S kvs (fun kvs' news' => McD prog w A h₀ L m env kx vx [] scope cl s S Fin r kvs' news') kv) E' s₄) E' { s with heap := h, toks := tk }) :
    McD prog w A h₀ L m env kx vx [] scope cl s S Fin (asg :: r) kvs news :=
  fun I oI C oC D oD m₂ hp tk E' h1 h2 h3 h4 h5 h6 => wpAny_tests_nil (by rw [if_pos rfl]; exact h I oI C oC D oD m₂ hp tk E' h1 h2 h3 h4 h5 h6)

/-- a ledger without one of its entries -/
inductive Without (a : Addr) (o : Obj) : Led → Led → Prop
  | head {r : Led} : Without a o ((a, o) :: r) r
  | tail {p : Addr × Obj} {l r : Led} : Without a o l r → Without a o (p :: l) (p :: r)
theorem Without.sub {a : Addr} {o : Obj} {l r : Led} (x : Without a o l r) : ∀ p ∈ (a, o) :: r, p ∈ l := by
  induction x with
  | head => exact fun _ h => h
  | tail _ ih =>
    intro p hp
    rcases List.mem_cons.mp hp with rfl | hp
    · exact .tail _ (ih _ (.head _))
    · rcases List.mem_cons.mp hp with rfl | hp
      · exact .head _
      · exact .tail _ (ih _ (.tail _ hp))
theorem CompEnd.introW {s₁ : Shared} {I : Addr} {oI : Obj} {C : Addr} {oC : Obj} {D : Addr} {oD : Obj} {S : Led → Prop} {rest : Value → Led → Prop} {y : Value} {h' : Heap} {tk : Nat} {all r1 r2 r3 : Led}
    (F : Fr h₀ L h' m) (N : News h₀ L h' all) (w1 : Without I oI all r1) (w2 : Without C oC r1 r2) (w3 : Without D oD r2 r3) (off : Off3 I C D r3) (hS : S r3) (r : rest y r3) :
    CompEnd h₀ L m s₁ I oI C oC D oD S rest y { s₁ with heap := h', toks := tk } := (by exact use_of : Use _ (by
 first
 | (
  refine CompEnd.intro F N r3 (fun p hp => ?_) off hS r
  rcases List.mem_cons.mp hp with rfl | hp
  · exact w1.sub _ (.head _)
  · refine w1.sub _ (.tail _ ?_)
    rcases List.mem_cons.mp hp with rfl | hp
    · exact w2.sub _ (.head _)
    · exact w2.sub _ (.tail _ (w3.sub _ hp)))
 | fail))
end comp
section comp
open PyProof.Rows.LCg
variable {prog : Program} {w : World} {A : Around} {E : Value → Shared → Prop} {s : Shared} {h₀ : Heap} {L : Addr} {m : Str → Option Value} {env : Env}
theorem MSrcL.listName {elt : PySem.Expr} {ifs : List PySem.Expr} {scope : Scope} {cl : List (Str × Addr)} {Fin : Shared → List Value → Led → Prop} {ax : Addr} {its : Array Value} {news : Led} {s₁ : Shared} {x : Str} {px : Pos}
    (hh : A.handled = none) (F : Fr h₀ L s₁.heap m) (N : News h₀ L s₁.heap news) (hl : SrcAt h₀ ax its news) (hsz : its.size ≤ sizeLine) (hkind : scope.kind = .function) (hx : scope.names.lookup x = some .local)
    (h : ∀ g, McL prog w A h₀ L m env elt ifs scope cl { s₁ with heap := g } (SrcAt h₀ ax its) (Fin { s₁ with heap := g }) (its.toList.map fun v m => m x = some v) [] news) : MSrcL prog w A E h₀ L m env elt (.Name x px) ifs scope cl Fin (.ref ax) s₁ := (by exact use_of : Use _ (by
 first
 | (
  refine MSrcL.list hh F N hl hsz (by simp) (asg_name hkind hx fun i v _ asg hi hv m₂ hm => ?_) h
  simp only [List.getElem?_map, Array.getElem?_toList, hv, Option.map_some, Option.some.injEq] at hi
  subst hi
  exact hm)
 | fail))
theorem MSrcD.listName {kx vx : PySem.Expr} {ifs : List PySem.Expr} {scope : Scope} {cl : List (Str × Addr)} {Fin : Shared → List (Str × Value) → Led → Prop} {ax : Addr} {its : Array Value} {news : Led} {s₁ : Shared} {x : Str} {px : Pos}
    (hh : A.handled = none) (F : Fr h₀ L s₁.heap m) (N : News h₀ L s₁.heap news) (hl : SrcAt h₀ ax its news) (hsz : its.size ≤ sizeLine) (hkind : scope.kind = .function) (hx : scope.names.lookup x = some .local)
    (h : ∀ g, McD prog w A h₀ L m env kx vx ifs scope cl { s₁ with heap := g } (SrcAt h₀ ax its) (Fin { s₁ with heap := g }) (its.toList.map fun v m => m x = some v) [] news) : MSrcD prog w A E h₀ L m env kx vx (.Name x px) ifs scope cl Fin (.ref ax) s₁ := (by exact use_of : Use _ (by
 first
 | (
  refine MSrcD.list hh F N hl hsz (by simp) (asg_name hkind hx fun i v _ asg hi hv m₂ hm => ?_) h
  simp only [List.getElem?_map, Array.getElem?_toList, hv, Option.map_some, Option.some.injEq] at hi
  subst hi
  exact hm)
 | fail))
theorem MSrcL.rangeName {elt : PySem.Expr} {ifs : List PySem.Expr} {scope : Scope} {cl : List (Str × Addr)} {Fin : Shared → List Value → Led → Prop} {r : Addr} {a b c : Int} {t u v : Tok} {n : Nat} {ks : List Int} {news : Led} {s₁ : Shared} {x : Str} {px : Pos}
    (hh : A.handled = none) (F : Fr h₀ L s₁.heap m) (N : News h₀ L s₁.heap news) (hr : IsRange s₁.heap r a b c t u v) (hsm : Builtin.Range.small a b c = true) (hn : Builtin.Range.rangeSize a b c = ((n : Nat) : Int)) (hsz : n ≤ sizeLine) (hkind : scope.kind = .function) (hx : scope.names.lookup x = some .local)
    (hks : ((List.range n).map fun i : Nat => a + (i : Int) * c) = ks)
    (h : ∀ g, McL prog w A h₀ L m env elt ifs scope cl { s₁ with heap := g } (fun _ => True) (Fin { s₁ with heap := g }) (ks.map fun k m => ∃ t, m x = some (.int k t)) [] news) : MSrcL prog w A E h₀ L m env elt (.Name x px) ifs scope cl Fin (.ref r) s₁ := (by exact use_of : Use _ (by
 first
 | (
  subst hks
  refine MSrcL.range (fun _ _ => rfl) hh F N hr hsm hn hsz (by simp) (asg_name hkind hx fun i v _ asg hi hv m₂ hm => ?_) h
  obtain ⟨t, rfl⟩ := hv
  simp only [List.map_map, List.getElem?_map] at hi
  cases hq : (List.range n)[i]? with
  | none => rw [hq] at hi; cases hi
  | some j =>
    rw [hq] at hi
    have : j = i := by
      have := List.getElem?_eq_some_iff.mp hq
      obtain ⟨h1, h2⟩ := this
      simpa using h2.symm
    subst this
    simp only [Option.map_some, Option.some.injEq] at hi
    subst hi
    exact ⟨t, hm⟩)
 | fail))
end comp
theorem unrEnd_W {h₀ : Heap} {L I : Addr} {it : Obj} {rest : (Str → Option Value) → Led → Prop} {s₁ : Shared} {h' : Heap} {tk : Nat} {m' : Str → Option Value} {all r1 : Led} (F : Fr h₀ L h' m') (N : News h₀ L h' all)
    (w : Without I it all r1) (off : ∀ p ∈ r1, p.1 ≠ I) (r : rest m' r1) : UnrEnd h₀ L s₁ I it rest { s₁ with heap := h', toks := tk } := UnrEnd.intro F N r1 w.sub off r
theorem unrEndW1 {h₀ : Heap} {L I : Addr} {it : Obj} {rest : (Str → Option Value) → Led → Prop} {s₁ : Shared} {h' : Heap} {tk : Nat} {m' : Str → Option Value} {all r1 : Led} (F : Fr h₀ L h' m') (N : News h₀ L h' all)
    (w : Without I it all r1) (off : ∀ p ∈ r1, p.1 ≠ I) (r : rest m' r1) : UnrEndW h₀ L s₁ [(I, it)] rest { s₁ with heap := h', toks := tk } :=
  ⟨h', tk, m', r1, rfl, F, fun p hp => N p (w.sub p hp), fun p hp q hq => by rw [List.mem_singleton.mp hq]; exact off p hp, r⟩
theorem unrEndW2 {h₀ : Heap} {L I J : Addr} {it jt : Obj} {rest : (Str → Option Value) → Led → Prop} {s₁ : Shared} {h' : Heap} {tk : Nat} {m' : Str → Option Value} {all r1 r2 : Led} (F : Fr h₀ L h' m') (N : News h₀ L h' all)
    (w : Without I it all r1) (w2 : Without J jt r1 r2) (off : ∀ p ∈ r2, p.1 ≠ I) (off2 : ∀ p ∈ r2, p.1 ≠ J) (r : rest m' r2) : UnrEndW h₀ L s₁ [(I, it), (J, jt)] rest { s₁ with heap := h', toks := tk } :=
  ⟨h', tk, m', r2, rfl, F, fun p hp => N p (w.sub p (by
      rcases List.mem_cons.mp hp with rfl | hp
      · exact List.mem_cons_self ..
      · exact List.mem_cons_of_mem _ (w2.sub p hp))), fun p hp q hq => by
    rcases List.mem_cons.mp hq with rfl | hq
    · exact off p hp
    · rw [List.mem_singleton.mp hq]; exact off2 p hp, r⟩
theorem unrEndW3 {h₀ : Heap} {L I J K : Addr} {it jt kt : Obj} {rest : (Str → Option Value) → Led → Prop} {s₁ : Shared} {h' : Heap} {tk : Nat} {m' : Str → Option Value} {all r1 r2 r3 : Led} (F : Fr h₀ L h' m') (N : News h₀ L h' all)
    (w : Without I it all r1) (w2 : Without J jt r1 r2) (w3 : Without K kt r2 r3) (off : ∀ p ∈ r3, p.1 ≠ I) (off2 : ∀ p ∈ r3, p.1 ≠ J) (off3 : ∀ p ∈ r3, p.1 ≠ K) (r : rest m' r3) : UnrEndW h₀ L s₁ [(I, it), (J, jt), (K, kt)] rest { s₁ with heap := h', toks := tk } :=
  ⟨h', tk, m', r3, rfl, F, fun p hp => N p (w.sub p (by
      rcases List.mem_cons.mp hp with rfl | hp
      · exact List.mem_cons_self ..
      · refine List.mem_cons_of_mem _ (w2.sub p ?_)
        rcases List.mem_cons.mp hp with rfl | hp
        · exact List.mem_cons_self ..
        · exact List.mem_cons_of_mem _ (w3.sub p hp))), fun p hp q hq => by
    rcases List.mem_cons.mp hq with rfl | hq
    · exact off p hp
    · rcases List.mem_cons.mp hq with rfl | hq
      · exact off2 p hp
      · rw [List.mem_singleton.mp hq]; exact off3 p hp, r⟩
/-- a ledger without some of its entries -/
inductive Withouts : Led → Led → Led → Prop
  | nil {l : Led} : Withouts [] l l
  | cons {a : Addr} {o : Obj} {its l r r' : Led} : Without a o l r → Withouts its r r' → Withouts ((a, o) :: its) l r'
theorem Withouts.sub {its l r : Led} (x : Withouts its l r) : ∀ p ∈ its ++ r, p ∈ l := by
  induction x with
  | nil => exact fun _ h => h
  | cons w _ ih =>
    intro p hp
    rcases List.mem_cons.mp hp with rfl | hp
    · exact w.sub _ (List.mem_cons_self ..)
    · exact w.sub _ (List.mem_cons_of_mem _ (ih p hp))
def Offs (r : Led) : Led → Prop
  | [] => True
  | q :: its => (∀ p ∈ r, p.1 ≠ q.1) ∧ Offs r its
theorem Offs.at {r : Led} : ∀ {its : Led}, Offs r its → ∀ p ∈ r, ∀ q ∈ its, p.1 ≠ q.1
  | [], _, _, _, _, hq => nomatch hq
  | _ :: _, x, p, hp, q, hq => by
    rcases List.mem_cons.mp hq with rfl | hq
    · exact x.1 p hp
    · exact x.2.at p hp q hq
theorem unrEndWs {h₀ : Heap} {L : Addr} {its : Led} {rest : (Str → Option Value) → Led → Prop} {s₁ : Shared} {h' : Heap} {tk : Nat} {m' : Str → Option Value} {all r1 : Led} (F : Fr h₀ L h' m') (N : News h₀ L h' all)
    (w : Withouts its all r1) (off : Offs r1 its) (r : rest m' r1) : UnrEndW h₀ L s₁ its rest { s₁ with heap := h', toks := tk } :=
  ⟨h', tk, m', r1, rfl, F, fun p hp => N p (w.sub p hp), fun p hp q hq => off.at p hp q hq, r⟩
theorem off_up {I k : Nat} : ∀ {r : Led}, AllLt I r → ∀ p ∈ r, p.1 ≠ I + k
  | [], _, _, hp => nomatch hp
  | _ :: _, x, p, hp => by
    rcases List.mem_cons.mp hp with rfl | hp
    · exact Nat.ne_of_lt (Nat.lt_of_lt_of_le x.1 (Nat.le_add_right _ _))
    · exact off_up x.2 p hp
theorem off_self {I : Nat} {r : Led} (h : AllLt I r) : ∀ p ∈ r, p.1 ≠ I := off_up (k := 0) h
section cx
open PySem PySem.Spec
/-- where a contract stands: the frame's depth, units, name, scope, place, and what lies above it -/
structure Cx where
  dp : Nat
  un : Nat
  gd : Option (List Code)
  cn : Str
  cs : Scope
  L : Addr
  a : Addr
  ccd : Value
  cl : List (Str × Addr)
  outer : List Env
abbrev T1 (κ : Cx) : Around := ktrTop κ.dp κ.un κ.gd κ.cn κ.cs κ.L κ.a κ.ccd κ.cl κ.outer
theorem roomD {d c D : Nat} (h : d + D < recursionLimit) (e : Nat.ble c D = true) : d + c < recursionLimit := Nat.lt_of_le_of_lt (Nat.add_le_add_left (Nat.le_of_ble_eq_true e) d) h
theorem roomC {d c D : Nat} (h : d + D < cLine) (e : Nat.ble c D = true) : d + c < cLine := Nat.lt_of_le_of_lt (Nat.add_le_add_left (Nat.le_of_ble_eq_true e) d) h
end cx
section defS
theorem bnd1 {s : Shared} {name qual : Str} {body : List Stmt} {scope : Scope} {dV kV doc pm cdv ct : Value} {an : Option Addr} {n0 : Str} {p0 : Pos} {v0 : Value}
    (h : bindArgs (fnOf name qual { posonlyargs := [], args := [{ arg := n0, annotation := none, pos := p0 }], vararg := none, kwonlyargs := [], kw_defaults := [], kwarg := none, defaults := [] } body scope dV kV doc pm an cdv ct) ⟨[v0], []⟩ = pure [(n0, v0)]) :
    BindsTo s (fnOf name qual { posonlyargs := [], args := [{ arg := n0, annotation := none, pos := p0 }], vararg := none, kwonlyargs := [], kw_defaults := [], kwarg := none, defaults := [] } body scope dV kV doc pm an cdv ct) ⟨[v0], []⟩ [(n0, v0)] := .of_eq h
theorem bnd2 {s : Shared} {name qual : Str} {body : List Stmt} {scope : Scope} {dV kV doc pm cdv ct : Value} {an : Option Addr} {n0 n1 : Str} {p0 p1 : Pos} {v0 v1 : Value}
    (h : bindArgs (fnOf name qual { posonlyargs := [], args := [{ arg := n0, annotation := none, pos := p0 }, { arg := n1, annotation := none, pos := p1 }], vararg := none, kwonlyargs := [], kw_defaults := [], kwarg := none, defaults := [] } body scope dV kV doc pm an cdv ct) ⟨[v0, v1], []⟩ = pure [(n0, v0), (n1, v1)]) :
    BindsTo s (fnOf name qual { posonlyargs := [], args := [{ arg := n0, annotation := none, pos := p0 }, { arg := n1, annotation := none, pos := p1 }], vararg := none, kwonlyargs := [], kw_defaults := [], kwarg := none, defaults := [] } body scope dV kV doc pm an cdv ct) ⟨[v0, v1], []⟩ [(n0, v0), (n1, v1)] := .of_eq h
theorem bnd3 {s : Shared} {name qual : Str} {body : List Stmt} {scope : Scope} {dV kV doc pm cdv ct : Value} {an : Option Addr} {n0 n1 n2 : Str} {p0 p1 p2 : Pos} {v0 v1 v2 : Value}
    (h : bindArgs (fnOf name qual { posonlyargs := [], args := [{ arg := n0, annotation := none, pos := p0 }, { arg := n1, annotation := none, pos := p1 }, { arg := n2, annotation := none, pos := p2 }], vararg := none, kwonlyargs := [], kw_defaults := [], kwarg := none, defaults := [] } body scope dV kV doc pm an cdv ct) ⟨[v0, v1, v2], []⟩ = pure [(n0, v0), (n1, v1), (n2, v2)]) :
    BindsTo s (fnOf name qual { posonlyargs := [], args := [{ arg := n0, annotation := none, pos := p0 }, { arg := n1, annotation := none, pos := p1 }, { arg := n2, annotation := none, pos := p2 }], vararg := none, kwonlyargs := [], kw_defaults := [], kwarg := none, defaults := [] } body scope dV kV doc pm an cdv ct) ⟨[v0, v1, v2], []⟩ [(n0, v0), (n1, v1), (n2, v2)] := .of_eq h
theorem bnd4 {s : Shared} {name qual : Str} {body : List Stmt} {scope : Scope} {dV kV doc pm cdv ct : Value} {an : Option Addr} {n0 n1 n2 n3 : Str} {p0 p1 p2 p3 : Pos} {v0 v1 v2 v3 : Value}
    (h : bindArgs (fnOf name qual { posonlyargs := [], args := [{ arg := n0, annotation := none, pos := p0 }, { arg := n1, annotation := none, pos := p1 }, { arg := n2, annotation := none, pos := p2 }, { arg := n3, annotation := none, pos := p3 }], vararg := none, kwonlyargs := [], kw_defaults := [], kwarg := none, defaults := [] } body scope dV kV doc pm an cdv ct) ⟨[v0, v1, v2, v3], []⟩ = pure [(n0, v0), (n1, v1), (n2, v2), (n3, v3)]) :
    BindsTo s (fnOf name qual { posonlyargs := [], args := [{ arg := n0, annotation := none, pos := p0 }, { arg := n1, annotation := none, pos := p1 }, { arg := n2, annotation := none, pos := p2 }, { arg := n3, annotation := none, pos := p3 }], vararg := none, kwonlyargs := [], kw_defaults := [], kwarg := none, defaults := [] } body scope dV kV doc pm an cdv ct) ⟨[v0, v1, v2, v3], []⟩ [(n0, v0), (n1, v1), (n2, v2), (n3, v3)] := .of_eq h
theorem bnd9 {s : Shared} {name qual : Str} {body : List Stmt} {scope : Scope} {dV kV doc pm cdv ct : Value} {an : Option Addr} {n0 n1 n2 n3 n4 n5 n6 n7 n8 : Str} {p0 p1 p2 p3 p4 p5 p6 p7 p8 : Pos} {v0 v1 v2 v3 v4 v5 v6 v7 v8 : Value}
    (h : bindArgs (fnOf name qual { posonlyargs := [], args := [{ arg := n0, annotation := none, pos := p0 }, { arg := n1, annotation := none, pos := p1 }, { arg := n2, annotation := none, pos := p2 }, { arg := n3, annotation := none, pos := p3 }, { arg := n4, annotation := none, pos := p4 }, { arg := n5, annotation := none, pos := p5 }, { arg := n6, annotation := none, pos := p6 }, { arg := n7, annotation := none, pos := p7 }, { arg := n8, annotation := none, pos := p8 }], vararg := none, kwonlyargs := [], kw_defaults := [], kwarg := none, defaults := [] } body scope dV kV doc pm an cdv ct) ⟨[v0, v1, v2, v3, v4, v5, v6, v7, v8], []⟩ = pure [(n0, v0), (n1, v1), (n2, v2), (n3, v3), (n4, v4), (n5, v5), (n6, v6), (n7, v7), (n8, v8)]) :
    BindsTo s (fnOf name qual { posonlyargs := [], args := [{ arg := n0, annotation := none, pos := p0 }, { arg := n1, annotation := none, pos := p1 }, { arg := n2, annotation := none, pos := p2 }, { arg := n3, annotation := none, pos := p3 }, { arg := n4, annotation := none, pos := p4 }, { arg := n5, annotation := none, pos := p5 }, { arg := n6, annotation := none, pos := p6 }, { arg := n7, annotation := none, pos := p7 }, { arg := n8, annotation := none, pos := p8 }], vararg := none, kwonlyargs := [], kw_defaults := [], kwarg := none, defaults := [] } body scope dV kV doc pm an cdv ct) ⟨[v0, v1, v2, v3, v4, v5, v6, v7, v8], []⟩ [(n0, v0), (n1, v1), (n2, v2), (n3, v3), (n4, v4), (n5, v5), (n6, v6), (n7, v7), (n8, v8)] := .of_eq h
variable {prog : Program} {w : World} {A A₀ : Around} {s : Shared} {base h₀ : Heap} {L : Addr} {m : Str → Option Value} {news : List (Addr × Obj)} {K : Frag} {p : Program} {loose : List Str} {mean : ExcName → Option Value} {mg mb : Str → Option Value}
theorem code_defS {env : Env} {outer : List Env} {R : Result → Shared → Prop} {name qual : Str} {params : Arguments} {body : List Stmt} {scope : Scope} {dV kV doc pm cdv ct oc : Value} {an od : Option Addr} {osl : Array (Option Value)} {f : Addr} {args : Args} {binds : List (Str × Value)}
    (B : Below A₀ base outer h₀) (F : Fr h₀ L s.heap m) (X₀ : K.In h₀) (N : News h₀ L s.heap news) (T : Top p loose mean mg mb h₀) (hA : A.frames = some (env :: outer)) (hf : env.frame = some L) (hke : env.scope.kind = .function)
    (ho : K.lookup f = some ⟨oc, od, .func (fnOf name qual params body scope dV kV doc pm an cdv ct), osl⟩) (hcd : codeIn K cdv qual = true) (hroom : A.depth < recursionLimit)
    (hbind : BindsTo s (fnOf name qual params body scope dV kV doc pm an cdv ct) args binds) (hloc : ∀ y ∈ binds, scope.names.lookup y.1 = some .local)
    (h : ∀ g L' h₁ tk, Fr h₀ L g m → Fr g L' h₁ (fun y => binds.reverse.lookup y) → News g L' h₁ news → Below A base (env :: outer) g → K.In g → Top p loose mean mg mb g →
      wpAny (model prog w) (A.deeper (envOf qual scope L' f cdv)) (execs body (envOf qual scope L' f cdv))
        (fun fl s' => LeaveK h₀ L m g R (match fl with | .ret v => v | _ => .none) s')
        (fun e s' => wpAny (model prog w) (A.deeper (envOf qual scope L' f cdv)) (leaving (envOf qual scope L' f cdv) e) (fun _ s'' => R (.error e) s'') (fun e' s'' => R (.error e') s'') s')
        { s with heap := h₁, toks := tk })
    (hco : scope.isCoroutine = false) (hgen : scope.isGenerator = false) (hk : scope.kind = .function)
    (hcell : ∀ x ∈ scope.names, x.2 ≠ .cell) : codeAny (model prog w) A (.call (.ref f) args) R s :=
  code_def B F X₀ N T hA hf hke ho hcd hroom hbind hloc (fun g L' h₁ => h g L' h₁ _) hco hgen hk hcell
end defS
section letobj
variable {M : Model} {A : Around} {E : Value → Shared → Prop} {s : Shared} {h₀ : Heap} {L : Addr} {m : Str → Option Value} {news : Led} {vs : List Value}
theorem newList_L {Q : Value → Shared → Prop} (F : Fr h₀ L s.heap m) (N : News h₀ L s.heap news)
    (h : ∀ l h', Fr h₀ L h' m → (let o : Obj := listOf vs.toArray 0; News h₀ L h' ((l, o) :: news) → (∀ p ∈ news, p.1 < l) → Q (.ref l) { s with heap := h' })) (hsz : vs.length ≤ sizeLine := by size_fits) : wpAny M A (newList vs) Q E s :=
  newList_K F N h hsz
theorem newTuple_L {Q : Value → Shared → Prop} (F : Fr h₀ L s.heap m) (N : News h₀ L s.heap news)
    (h : ∀ D h', Fr h₀ L h' m → (let o : Obj := { cls := .type "tuple", data := .seq vs.toArray }; News h₀ L h' ((D, o) :: news) → (∀ p ∈ news, p.1 < D) → Q (.ref D) { s with heap := h' })) (hz : vs.length ≤ sizeLine) : wpAny M A (newTuple vs) Q E s :=
  kup_newTuple F N h hz
end letobj
theorem neA {a b : Addr} {o : Obj} {led : Led} (h : ∀ p ∈ led, p.1 < b) (hm : (a, o) ∈ led) : a ≠ b := Nat.ne_of_lt (h _ hm)
theorem neB {a b : Addr} {o : Obj} {led : Led} (h : ∀ p ∈ led, p.1 < b) (hm : (a, o) ∈ led) : b ≠ a := Nat.ne_of_gt (h _ hm)
inductive Has (a : Addr) : Led → Prop
  | head {o : Obj} {l : Led} : Has a ((a, o) :: l)
  | tail {p : Addr × Obj} {l : Led} : Has a l → Has a (p :: l)
theorem Has.lt {a b : Addr} {led : Led} (hm : Has a led) (h : ∀ p ∈ led, p.1 < b) : @LT.lt Nat _ a b := by
  induction hm with
  | head => exact h _ (.head _)
  | tail _ ih => exact ih fun p hp => h p (.tail _ hp)
theorem neP {a b : Addr} {led : Led} (h : ∀ p ∈ led, p.1 < b) (hm : Has a led) : a ≠ b := Nat.ne_of_lt (hm.lt h)
theorem neQ {a b : Addr} {led : Led} (h : ∀ p ∈ led, p.1 < b) (hm : Has a led) : b ≠ a := Nat.ne_of_gt (hm.lt h)
theorem Has.of {a : Addr} {o : Obj} {led : Led} (h : (a, o) ∈ led) : Has a led := by
  induction led with
  | nil => cases h
  | cons p l ih => cases h with
    | head => exact .head
    | tail _ h => exact .tail (ih h)
inductive HasLt (a b : Addr) : Prop → Prop
  | here {R : Prop} : HasLt a b (@LT.lt Nat _ a b ∧ R)
  | last : HasLt a b (@LT.lt Nat _ a b)
  | there {P R : Prop} : HasLt a b R → HasLt a b (P ∧ R)
theorem HasLt.lt {a b : Addr} {P : Prop} (hm : HasLt a b P) : P → @LT.lt Nat _ a b := by
  induction hm with
  | here => exact fun h => h.1
  | last => exact fun h => h
  | there _ ih => exact fun h => ih h.2
theorem neC {a b x : Addr} {R : Prop} (h : @LT.lt Nat _ x b ∧ R) (hm : HasLt a b (@LT.lt Nat _ x b ∧ R)) : a ≠ b := Nat.ne_of_lt (hm.lt h)
theorem neD {a b x : Addr} {R : Prop} (h : @LT.lt Nat _ x a ∧ R) (hm : HasLt b a (@LT.lt Nat _ x a ∧ R)) : a ≠ b := Nat.ne_of_gt (hm.lt h)
section foldQ
variable {α : Type} {M : Model} {A : Around} {X : Sem α} {Q : α → Shared → Prop} {E : Value → Shared → Prop} {s : Shared}
theorem foldQ (h : let q := Q; wpAny M A X q E s) : wpAny M A X Q E s := h
theorem foldE (h : let e := E; wpAny M A X Q e s) : wpAny M A X Q E s := h
theorem tstE (h : wpAny M A X Q E s) (_t : wpAny M A (pure Value.none : Sem Value) E (fun _ _ => True) s ∨ True) : wpAny M A X Q E s := h
end foldQ
theorem cases7N : ∀ n : Nat, n < 7 → ((n : Int) = 0 ∨ (n : Int) = 1 ∨ (n : Int) = 2 ∨ (n : Int) = 3 ∨ (n : Int) = 4 ∨ (n : Int) = 5 ∨ (n : Int) = 6) := by decide
theorem cases7 {k : Int} (h1 : k < 7) (h0 : 0 ≤ k) : k = 0 ∨ k = 1 ∨ k = 2 ∨ k = 3 ∨ k = 4 ∨ k = 5 ∨ k = 6 := by
  obtain ⟨n, rfl⟩ := Int.eq_ofNat_of_zero_le h0
  exact cases7N n (Int.ofNat_lt.mp h1)
theorem cases6N : ∀ n : Nat, n < 6 → ((n : Int) = 0 ∨ (n : Int) = 1 ∨ (n : Int) = 2 ∨ (n : Int) = 3 ∨ (n : Int) = 4 ∨ (n : Int) = 5) := by decide
theorem cases6 {k : Int} (h0 : 0 ≤ k) (h1 : k ≤ 5) : k = 0 ∨ k = 1 ∨ k = 2 ∨ k = 3 ∨ k = 4 ∨ k = 5 := by
  obtain ⟨n, rfl⟩ := Int.eq_ofNat_of_zero_le h0
  exact cases6N n (Nat.lt_succ_of_le (Int.ofNat_le.mp h1))
theorem cases4N : ∀ n : Nat, n < 4 → ((n : Int) = 0 ∨ (n : Int) = 1 ∨ (n : Int) = 2 ∨ (n : Int) = 3) := by decide
theorem cases4 {k : Int} (h0 : 0 ≤ k) (h1 : k ≤ 3) : k = 0 ∨ k = 1 ∨ k = 2 ∨ k = 3 := by
  obtain ⟨n, rfl⟩ := Int.eq_ofNat_of_zero_le h0
  exact cases4N n (Nat.lt_succ_of_le (Int.ofNat_le.mp h1))
theorem mod4A {d x : Int} (h : d = x % 4) : 0 ≤ d := h ▸ Int.emod_nonneg _ (by decide)
theorem mod4B {d x : Int} (h : d = x % 4) : d < 4 := h ▸ Int.emod_lt_of_pos _ (by decide)
theorem modS {a b x : Int} (h1 : b = a % 4) (h2 : a = x / 4) : b = x / 4 % 4 := h2 ▸ h1
theorem leE {a b : Int} (h : a = b) (h2 : 0 ≤ b) : 0 ≤ a := h ▸ h2
theorem ltE {a b : Int} (h : a = b) (h2 : b < 256) : a < 256 := h ▸ h2
theorem leE' {a b : Int} (h : b = a) (h2 : 0 ≤ b) : 0 ≤ a := h ▸ h2
theorem ltE' {a b : Int} (h : b = a) (h2 : b < 256) : a < 256 := h ▸ h2
theorem modE {a b : Int} (h0 : 0 ≤ a) (h1 : a < 256) (h : a = b) : a % 256 = b := (Int.emod_eq_of_lt h0 h1).trans h
theorem octB {r a b c d e : Int} (h1 : 0 ≤ 0 + a + b + c + d + e ∧ 0 + a + b + c + d + e ≤ 115) (h2 : 0 ≤ r ∧ r ≤ 3) : 0 ≤ 4 * r + a + b + c + d + e ∧ 4 * r + a + b + c + d + e < 256 := by omega
theorem dstep (x : Int) (k K : Int) (hk : 0 ≤ k) (hK : K = k * 256) : x / K * K + x / k % 256 * k = x / k * k := by
  subst hK
  rw [← Int.ediv_ediv_of_nonneg hk, Int.mul_comm k 256, ← Int.mul_assoc, ← Int.add_mul, Int.ediv_mul_add_emod]
theorem dlast (x : Int) : x / 256 * 256 + x % 256 = x := Int.ediv_mul_add_emod x 256
theorem dtop {x k : Int} (K : Int) (hk : 0 < k) (h0 : 0 ≤ x) (h1 : x < K) (hK : K = 256 * k) : x / k % 256 = x / k :=
  Int.emod_eq_of_lt (Int.ediv_nonneg h0 (Int.le_of_lt hk)) (Int.ediv_lt_of_lt_mul hk (hK ▸ h1))
theorem storeX_M {M : Model} {A : Around} {E : Value → Shared → Prop} {s : Shared} {h₀ : Heap} {L a : Addr} {m : Str → Option Value} {cn : Str} {cs : Scope} {ccd : Value} {cl : List (Str × Addr)}
  {x : Str} {v : Value} {Q : Unit → Shared → Prop} {news : List (Addr × Obj)} (F : Fr h₀ L s.heap m) (N : News h₀ L s.heap news)
  (h : let mm : Str → Option Value := fun y => if y = x then some v else m y
    ∀ h', Fr h₀ L h' mm → News h₀ L h' news → Q () { s with heap := h', toks := s.toks + 1 })
  (hk : cs.kind = .function := by rfl) (hx : (envX cn cs L a ccd cl).kindOf x = some .local := by rfl) : wpAny M A (storeName (envX cn cs L a ccd cl) x v) Q E s := storeX_L F N h hk hx
section
local macro_rules | `(tactic| walk_at $s:str) => `(tactic| k_extra $s)
local macro_rules | `(tactic| k_lt $h) => `(tactic| k_extra "my k_lt")
local macro_rules | `(tactic| k_ne) => `(tactic| k_extra "my k_ne")
local macro_rules | `(tactic| by_in) => `(tactic| k_extra "my by_in")
local macro_rules | `(tactic| k_all) => `(tactic| k_extra "my k_all")
local macro_rules | `(tactic| k_enter) => `(tactic| k_extra "my k_enter")
local macro_rules | `(tactic| k_in) => `(tactic| k_extra "my k_in")
local macro_rules | `(tactic| k_room) => `(tactic| k_extra "my k_room")
local macro_rules | `(tactic| k_upd) => `(tactic| k_extra "my k_upd")
local macro_rules | `(tactic| k_updF) => `(tactic| k_extra "my k_updF")
local macro_rules | `(tactic| ktr_room) => `(tactic| k_extra "my ktr_room")
local macro_rules | `(tactic| lcg_off) => `(tactic| k_extra "my lcg_off")
theorem filled : PySem.Challenge.rw_xm0976_01 = PySem.Challenge.rw_xm0976_01 ∧ KH = KH := by
  k_fill
  exact ⟨rfl, rfl⟩
theorem wds0 : True := by
  k_with_none
  k_with "my k_all" =>
    (assumption)
  k_with "subscriptTail Name Constant ref int" =>
    ((k_here; (with_reducible show wpAny _ _ (subscriptTail _ _ (Value.ref _) (Value.int _ _)) _ _ _); (with_unfolding_all refine' item_lit ?z3656k1 ?z3656k2 ?z3656k3 ?z3656k4 ?_ ?z3656k6; (case z3656k1 => is_list); (case z3656k2 => decide); (case z3656k3 => decide); (case z3656k4 => rfl); (case z3656k6 => with_unfolding_all rfl); k_whole)))
  k_with "binaryOp FloorDiv int int" =>
    ((k_here; (refine' div_pos ?z9333k1 ?z9333k2 ?_; (case z9333k1 => omega); (case z9333k2 => omega); k_whole); intro d' hd1 hd2; (try dsimp only)))
  k_with "binaryOp Mod int int" =>
    ((k_here; (refine' mod_pos ?z6210k1 ?_; (case z6210k1 => omega); k_whole); intro d' hd1 hd2 hd3; (try dsimp only)))
  k_with "binaryOp Mult int int" =>
    ((k_here; first | (refine' mul_r ?z5139k1 ?z5139k2 ?_; (case z5139k1 => omega); (case z5139k2 => omega); k_whole) | (refine' mul_l ?z5139k1 ?z5139k2 ?_; (case z5139k1 => omega); (case z5139k2 => omega); k_whole); (try dsimp only)))
  k_with "my k_room" =>
    (ktr_room)
  k_with "my k_enter" =>
    (first
      | (refine' code_def ?z8050k1 ?z8050k2 ?z8050k3 ?z8050k4 ?z8050k5 ?z8050kA ?z8050kF ?z8050kK ?z8050k6 ?z8050k7 ?z8050k8 ?z8050k9 ?z8050kB ?_ ?z8050c2 ?z8050c3 ?z8050c4 ?z8050c5; (case z8050kA => exact rfl); (case z8050kF => exact rfl); (case z8050kK => first | exact rfl | assumption); (case z8050k1 => k_asm); (case z8050k2 => k_asm); (case z8050k3 => k_asm); (case z8050k4 => k_asm); (case z8050k5 => k_asm); (case z8050k6 => k_is); (case z8050k7 => k_is); (case z8050k8 => ktr_room); (case z8050k9 => first | exact BindsTo.of_eq rfl | exact binds_K (by k_in) rfl (by k_is) rfl rfl rfl); (case z8050c5 => decide); (case z8050kB => exact locs rfl); (case z8050c2 => exact rfl); (case z8050c3 => exact rfl); (case z8050c4 => exact rfl); k_whole; intro g' L' h' FG' F' N' B' X' T'; (try dsimp only); (try k_lift B'); (try k_extra "fold9"))
      | (refine' code_defC ?z8050k1 ?z8050k2 ?z8050k3 ?z8050k4 ?z8050k5 ?z8050kA ?z8050kF ?z8050kK ?z8050k6 ?z8050k7 ?z8050k8 ?z8050k9 ?z8050kB ?z8050kD ?_ ?z8050c2 ?z8050c3 ?z8050c4; (case z8050kA => exact rfl); (case z8050kF => exact rfl); (case z8050kK => first | exact rfl | assumption); (case z8050k1 => k_asm); (case z8050k2 => k_asm); (case z8050k3 => k_asm); (case z8050k4 => k_asm); (case z8050k5 => k_asm); (case z8050k6 => k_is); (case z8050k7 => k_is); (case z8050k8 => ktr_room); (case z8050k9 => first | exact BindsTo.of_eq rfl | exact binds_K (by k_in) rfl (by k_is) rfl rfl rfl); (case z8050kB => exact rfl); (case z8050kD => decide +kernel); (case z8050c2 => exact rfl); (case z8050c3 => exact rfl); (case z8050c4 => exact rfl); k_whole; intro g' L' h' tk' cells' FG' F' N' Y' B' X' T' l1; (try k_lt l1); k_cells Y'; (try simp only [List.cons_append, List.nil_append] at N'); (try dsimp only); (try k_lift B'); (try k_extra "fold9")))
  k_with "binaryOp Mult int int" =>
    ((k_here; (with_reducible show wpAny _ _ (binaryOp _ (Value.int (OfNat.ofNat _) _) (Value.int (OfNat.ofNat _) _)) _ _ _); (refine' mul_is ?z2010k1 ?z2010k2 ?z2010k3 ?_; (case z2010k1 => decide); (case z2010k2 => decide); (case z2010k3 => simp only [Int.reduceMul]; rfl); k_whole); intro d' hd1; subst hd1; (try dsimp only)))
  k_with "binaryOp Pow int int" =>
    ((k_here; (with_reducible show wpAny _ _ (binaryOp _ (Value.int (OfNat.ofNat _) _) (Value.int (OfNat.ofNat _) _)) _ _ _); (refine' pow_is ?z913k1 ?z913k2 ?z913k3 ?z913k4 ?_; (case z913k1 => decide); (case z913k2 => decide); (case z913k3 => decide); (case z913k4 => simp only [Int.reduceToNat, Int.reducePow]; rfl); k_whole); intro d' hd1; subst hd1; (try dsimp only)))
  k_with "binaryOp LShift int int" =>
    ((k_here; (refine' shl_is ?z2523k1 ?z2523k2 ?z2523k3 ?z2523k4 ?_; (case z2523k1 => omega); (case z2523k2 => omega); (case z2523k3 => omega); (case z2523k4 => simp only [Int.reduceToNat, Int.reducePow]; rfl); k_whole); intro d' hd1; (try dsimp only)))
  k_with "binaryOp RShift int int" =>
    ((k_here; (refine' shr_is ?z9806k1 ?z9806k2 ?_; (case z9806k1 => omega); (case z9806k2 => simp only [Int.reduceToNat, Int.reducePow]; rfl); k_whole); intro d' hd1; (try dsimp only)))
  k_with "binaryOp BitAnd int int" =>
    ((k_here; (with_reducible first | refine and_is (bitAnd_m2 _) ?_ | refine and_is (bitAnd_m8 _) ?_ | refine and_is (and4095 (by omega)) ?_ | refine and_is (and240 (by omega) (by omega)) ?_ | refine and_is (and1 (by omega) (by omega)) ?_ | refine and_is (and2 (by omega) (by omega)) ?_ | refine and_is (and16 (by omega) (by omega)) ?_ | refine and_is (and32 (by omega) (by omega)) ?_ | refine and_is (and64 (by omega) (by omega)) ?_); intro d' hd1; (try dsimp only)))
  k_with "binaryOp BitOr int int" =>
    ((k_here; (subst_vars); (with_reducible refine or_is (or8 (by omega) (by omega) (by omega)) ?_); intro d' hd1; (try dsimp only)))
  k_with "my k_upd" =>
    ((with_reducible show Without _ _ _ _); first | exact Without.head | exact Without.tail (by k_upd))
  k_with "my lcg_off" =>
    (assumption)
  k_with "eval ListComp" =>
    ((k_here; k_dflt (refine' mcE_L ?z2849k1 ?z2849k2 ?z2849k3 ?z2849k4 ?z2849k5 ?_ ?z2849k6; (case z2849k1 => k_asm); (case z2849k2 => with_unfolding_all rfl); (case z2849k3 => decide); (case z2849k4 => rfl); (case z2849k5 => decide); (case z2849k6 => intro _; rfl))))
  k_with "eval DictComp" =>
    ((k_here; k_dflt (refine' mcE_D ?z2485k1 ?z2485k2 ?z2485k3 ?z2485k4 ?z2485k5 ?_ ?z2485k6; (case z2485k1 => k_asm); (case z2485k2 => with_unfolding_all rfl); (case z2485k3 => decide); (case z2485k4 => rfl); (case z2485k5 => decide); (case z2485k6 => intro _; rfl))))
  k_with "exec Assign cons DictComp" =>
    ((k_here; k_dflt (refine' mcA_D ?z5348k1 ?z5348k0 ?z5348kS ?z5348k2 ?z5348k3 ?z5348k4 ?z5348k5 ?z5348kY ?z5348kP ?_ ?z5348k6; (case z5348k1 => k_asm); (case z5348k0 => rfl); (case z5348kS => with_unfolding_all rfl); (case z5348k2 => with_unfolding_all rfl); (case z5348k3 => decide); (case z5348k4 => rfl); (case z5348k5 => decide); (case z5348kY => rfl); (case z5348kP => rfl); (case z5348k6 => intro _; rfl))))
  k_with "MSrcL" =>
    ((k_here; k_dflt (first
      | (refine' MSrcL.listName ?z1839h ?z1839F ?z1839N ?z1839S ?z1839sz ?z1839hk ?z1839hx ?_; (case z1839h => rfl); (case z1839F => k_asm); (case z1839N => k_asm); (case z1839S => exact Or.inr ⟨_, by k_mem, rfl, _, rfl⟩); (case z1839sz => exact Nat.le_of_ble_eq_true rfl); (case z1839hk => rfl); (case z1839hx => rfl); intro g9')
      | (refine' MSrcL.rangeName ?z1839h ?z1839F ?z1839N ?z1839r ?z1839sm ?z1839n ?z1839sz ?z1839hk ?z1839hx ?z1839ks ?_; (case z1839h => rfl); (case z1839F => k_asm); (case z1839N => k_asm); (case z1839r => assumption); (case z1839sm => first | decide | rfl); (case z1839n => first | rfl | decide); (case z1839sz => exact Nat.le_of_ble_eq_true rfl); (case z1839hk => rfl); (case z1839hx => rfl); (case z1839ks => first | (simp [List.range, List.range.loop]; rfl) | rfl); intro g9'))))
  k_with "MSrcD" =>
    ((k_here; k_dflt (refine' MSrcD.listName ?z23h ?z23F ?z23N ?z23S ?z23sz ?z23hk ?z23hx ?_; (case z23h => rfl); (case z23F => k_asm); (case z23N => k_asm); (case z23S => exact Or.inr ⟨_, by k_mem, rfl, _, rfl⟩); (case z23sz => exact Nat.le_of_ble_eq_true rfl); (case z23hk => rfl); (case z23hx => rfl); intro g9')))
  k_with "McL" =>
    ((first | (with_reducible refine McL.done ?_) | ((first | (with_reducible show McL _ _ _ _ _ _ _ _ _ _ _ _ _ _ (_ :: _) _ _) | (fail_if_success (k_extra "mcl guard"))); with_unfolding_all first
      | (refine McL.turn ?_; intro I' oI' C' oC' D' m' h' tk' E' hC' hasg' F' N' off' ne'; (try dsimp only at hasg'); (first | (obtain ⟨t9', u9', ha9', hb9'⟩ := hasg') | (obtain ⟨t9', ha9'⟩ := hasg') | skip); (try simp only [PyProof.Rows.LCg.Off3, and_true] at off'); (repeat (obtain ⟨⟨_, _, _⟩, off'⟩ := off')))
      | refine McL.done ?_)))
  k_with "McD" =>
    ((first | (with_reducible refine McD.done ?_) | (with_unfolding_all first
      | (refine McD.turn ?_; intro I' oI' C' oC' D' oD' m' h' tk' E' hC' hasg' F' N' off' ne'; (try dsimp only at hasg'); (first | (obtain ⟨t9', u9', ha9', hb9'⟩ := hasg') | (obtain ⟨t9', ha9'⟩ := hasg') | skip); (try simp only [PyProof.Rows.LCg.Off3, and_true] at off'); (repeat (obtain ⟨⟨_, _, _⟩, off'⟩ := off')))
      | refine McD.done ?_)))
  k_with "CompEnd" =>
    ((k_here; (refine' CompEnd.introW ?z4338F ?z4338N ?z4338w1 ?z4338w2 ?z4338w3 ?z4338off ?z4338src ?_; (case z4338F => k_asm); (case z4338N => assumption); (case z4338w1 => k_upd); (case z4338w2 => k_upd); (case z4338w3 => k_upd); (case z4338off => lcg_off); (case z4338src => lcg_src))))
  k_with "DEnd" =>
    ((with_unfolding_all refine DEnd.intro ?_))
  k_with "FinDE" =>
    (((unfold FinDE); intro D' oD' h' tk' hD' F' N' o1'; (try simp only [PyProof.Rows.LCg.Off1, and_true] at o1'); (try dsimp only)))
  k_with "FinDA" =>
    (((unfold FinDA); intro D' oD' h' tk' hD' F' N' o1'; (try simp only [PyProof.Rows.LCg.Off1, and_true] at o1'); (try dsimp only)))
  k_with "pyIter bytes" =>
    ((k_here; k_bytesUnr))
  k_with "ite" =>
    ((dsimp only; walk_at "ite"))
  k_with "ite" =>
    ((with_reducible show (if (!false) = true then _ else _); rw [if_pos rfl]))
  k_with "ite" =>
    ((with_reducible show (if (!true) = true then _ else _); rw [if_neg (by decide)]))
  k_with "testChain" =>
    ((dsimp only; walk_at "testChain"))
  k_with "UnrEnd" =>
    ((k_here; k_dflt (refine' unrEnd_W ?z3019F ?z3019N ?z3019w ?z3019off ?_; (case z3019F => k_asm); (case z3019N => assumption); (case z3019w => k_upd); (case z3019off => k_all))))
  k_with "pyIter ref" =>
    ((k_here; (with_reducible show wpAny _ _ (pyIter (Value.ref _)) (fun it s₂ => TurnsAt _ _ _ _ _ _ _ _ _ it s₂) _ _); k_dflt (first
      | (refine' iter_tupTurns ?z7750h ?z7750F ?z7750N ?z7750m ?z7750c ?z7750d ?_; (case z7750h => rfl); (case z7750F => k_asm); (case z7750N => k_asm); (case z7750m => k_mem); (case z7750c => rfl); (case z7750d => rfl); intro i' l1; (try k_lt l1))
      | (refine' iter_listTurns ?z7750h ?z7750F ?z7750N ?z7750m ?z7750c ?z7750d ?_; (case z7750h => rfl); (case z7750F => k_asm); (case z7750N => k_asm); (case z7750m => k_mem); (case z7750c => rfl); (case z7750d => rfl); intro i' l1; (try k_lt l1)))))
  k_with "UnrEndW" =>
    ((k_here; k_dflt (first
      | (refine' unrEndWs ?z7361F ?z7361N (Withouts.cons ?z7361w1 Withouts.nil) (And.intro ?z7361o1 True.intro) ?_; (case z7361F => k_asm); (case z7361N => assumption); (case z7361w1 => k_upd); (case z7361o1 => first | k_all | exact off_up (by assumption) | exact off_self (by assumption)); refine And.intro (by k_subL) ?_)
      | (refine' unrEndWs ?z7361F ?z7361N (Withouts.cons ?z7361w1 (Withouts.cons ?z7361w2 Withouts.nil)) (And.intro ?z7361o1 (And.intro ?z7361o2 True.intro)) ?_; (case z7361F => k_asm); (case z7361N => assumption); (case z7361w1 => k_upd); (case z7361w2 => k_upd); (case z7361o1 => first | k_all | exact off_up (by assumption) | exact off_self (by assumption)); (case z7361o2 => first | k_all | exact off_up (by assumption) | exact off_self (by assumption)); refine And.intro (by k_subL) ?_)
      | (refine' unrEndWs ?z7361F ?z7361N (Withouts.cons ?z7361w1 (Withouts.cons ?z7361w2 (Withouts.cons ?z7361w3 Withouts.nil))) (And.intro ?z7361o1 (And.intro ?z7361o2 (And.intro ?z7361o3 True.intro))) ?_; (case z7361F => k_asm); (case z7361N => assumption); (case z7361w1 => k_upd); (case z7361w2 => k_upd); (case z7361w3 => k_upd); (case z7361o1 => first | k_all | exact off_up (by assumption) | exact off_self (by assumption)); (case z7361o2 => first | k_all | exact off_up (by assumption) | exact off_self (by assumption)); (case z7361o3 => first | k_all | exact off_up (by assumption) | exact off_self (by assumption)); refine And.intro (by k_subL) ?_)
      | (refine' unrEndWs ?z7361F ?z7361N (Withouts.cons ?z7361w1 (Withouts.cons ?z7361w2 (Withouts.cons ?z7361w3 (Withouts.cons ?z7361w4 (Withouts.cons ?z7361w5 Withouts.nil))))) (And.intro ?z7361o1 (And.intro ?z7361o2 (And.intro ?z7361o3 (And.intro ?z7361o4 (And.intro ?z7361o5 True.intro))))) ?_; (case z7361F => k_asm); (case z7361N => assumption); (case z7361w1 => k_upd); (case z7361w2 => k_upd); (case z7361w3 => k_upd); (case z7361w4 => k_upd); (case z7361w5 => k_upd); (case z7361o1 => first | k_all | exact off_up (by assumption) | exact off_self (by assumption)); (case z7361o2 => first | k_all | exact off_up (by assumption) | exact off_self (by assumption)); (case z7361o3 => first | k_all | exact off_up (by assumption) | exact off_self (by assumption)); (case z7361o4 => first | k_all | exact off_up (by assumption) | exact off_self (by assumption)); (case z7361o5 => first | k_all | exact off_up (by assumption) | exact off_self (by assumption)); refine And.intro (by k_subL) ?_))))
  k_with "my k_enter" =>
    (first
      | (refine' code_defS ?z5763k1 ?z5763k2 ?z5763k3 ?z5763k4 ?z5763k5 ?z5763kA ?z5763kF ?z5763kK ?z5763k6 ?z5763k7 ?z5763k8 ?z5763k9 ?z5763kB ?_ ?z5763c2 ?z5763c3 ?z5763c4 ?z5763c5; (case z5763kA => exact rfl); (case z5763kF => exact rfl); (case z5763kK => first | exact rfl | assumption); (case z5763k1 => k_asm); (case z5763k2 => k_asm); (case z5763k3 => k_asm); (case z5763k4 => k_asm); (case z5763k5 => k_asm); (case z5763k6 => k_is); (case z5763k7 => k_is); (case z5763k8 => ktr_room); (case z5763k9 => first | (with_reducible refine bnd1 ?_; kernel_rfl) | (with_reducible refine bnd2 ?_; kernel_rfl) | (with_reducible refine bnd3 ?_; kernel_rfl) | (with_reducible refine bnd4 ?_; kernel_rfl) | (with_reducible refine bnd9 ?_; kernel_rfl) | exact BindsTo.of_eq rfl | exact binds_K (by k_in) rfl (by k_is) rfl rfl rfl); (case z5763c5 => decide); (case z5763kB => exact locs rfl); (case z5763c2 => exact rfl); (case z5763c3 => exact rfl); (case z5763c4 => exact rfl); k_whole; intro g' L' h' tk' FG' F' N' B' X' T'; (try dsimp only); (try k_lift B'); (try k_extra "fold9"))
      | (refine' code_defC ?z5763k1 ?z5763k2 ?z5763k3 ?z5763k4 ?z5763k5 ?z5763kA ?z5763kF ?z5763kK ?z5763k6 ?z5763k7 ?z5763k8 ?z5763k9 ?z5763kB ?z5763kD ?_ ?z5763c2 ?z5763c3 ?z5763c4; (case z5763kA => exact rfl); (case z5763kF => exact rfl); (case z5763kK => first | exact rfl | assumption); (case z5763k1 => k_asm); (case z5763k2 => k_asm); (case z5763k3 => k_asm); (case z5763k4 => k_asm); (case z5763k5 => k_asm); (case z5763k6 => k_is); (case z5763k7 => k_is); (case z5763k8 => ktr_room); (case z5763k9 => first | (with_reducible refine bnd1 ?_; kernel_rfl) | (with_reducible refine bnd2 ?_; kernel_rfl) | (with_reducible refine bnd3 ?_; kernel_rfl) | (with_reducible refine bnd4 ?_; kernel_rfl) | (with_reducible refine bnd9 ?_; kernel_rfl) | exact BindsTo.of_eq rfl | exact binds_K (by k_in) rfl (by k_is) rfl rfl rfl); (case z5763kB => exact rfl); (case z5763kD => decide +kernel); (case z5763c2 => exact rfl); (case z5763c3 => exact rfl); (case z5763c4 => exact rfl); k_whole; intro g' L' h' tk' cells' FG' F' N' Y' B' X' T' l1; (try k_lt l1); k_cells Y'; (try simp only [List.cons_append, List.nil_append] at N'); (try dsimp only); (try k_lift B'); (try k_extra "fold9")))
  k_with "execs cons" =>
    (k_here; (with_reducible refine wpAny_execs_cons ?_); (try dsimp only); k_extra "fold9")
  k_with "eval Call" =>
    (k_here; k_extra "fold9")
  k_with "eval BinOp" =>
    (k_here; k_extra "fold9")
  k_with "eval Subscript" =>
    (k_here; k_extra "fold9")
  k_with "my ktr_room" =>
    (first
      | ((with_reducible show _ < recursionLimit); first | exact roomD (d := κ.dp) (c := 0) hd rfl | exact roomD (d := κ.dp) (c := 1) hd rfl | exact roomD (d := κ.dp) (c := 2) hd rfl | exact roomD (d := κ.dp) (c := 3) hd rfl | exact roomD (d := κ.dp) (c := 4) hd rfl | exact roomD (d := κ.dp) (c := 9) hd rfl | exact roomD (d := κ.dp) (c := 10) hd rfl | exact roomD (d := κ.dp) (c := 11) hd rfl | exact roomD (d := κ.dp) (c := 21) hd rfl | exact roomD (d := κ.dp) (c := 31) hd rfl | exact roomD (d := κ.dp) (c := 41) hd rfl | exact roomD (d := κ.dp) (c := 61) hd rfl | exact roomD (d := κ.dp) (c := 81) hd rfl | exact roomD (d := κ.dp) (c := 201) hd rfl | exact roomD (d := κ.dp) (c := 12) hd rfl | exact roomD (d := κ.dp) (c := 22) hd rfl | exact roomD (d := κ.dp) (c := 32) hd rfl | exact roomD (d := κ.dp) (c := 42) hd rfl | exact roomD (d := κ.dp) (c := 62) hd rfl | exact roomD (d := κ.dp) (c := 82) hd rfl | exact roomD (d := κ.dp) (c := 202) hd rfl)
      | ((with_reducible show _ < cLine); first | exact roomC (d := κ.un) (c := 11) hu rfl | exact roomC (d := κ.un) (c := 67) hu rfl | exact roomC (d := κ.un) (c := 83) hu rfl | exact roomC (d := κ.un) (c := 103) hu rfl | exact roomC (d := κ.un) (c := 203) hu rfl | exact roomC (d := κ.un) (c := 303) hu rfl | exact roomC (d := κ.un) (c := 403) hu rfl | exact roomC (d := κ.un) (c := 503) hu rfl | exact roomC (d := κ.un) (c := 703) hu rfl | exact roomC (d := κ.un) (c := 803) hu rfl | exact roomC (d := κ.un) (c := 1503) hu rfl | exact roomC (d := κ.un) (c := 14) hu rfl | exact roomC (d := κ.un) (c := 70) hu rfl | exact roomC (d := κ.un) (c := 86) hu rfl | exact roomC (d := κ.un) (c := 106) hu rfl | exact roomC (d := κ.un) (c := 206) hu rfl | exact roomC (d := κ.un) (c := 306) hu rfl | exact roomC (d := κ.un) (c := 406) hu rfl | exact roomC (d := κ.un) (c := 506) hu rfl | exact roomC (d := κ.un) (c := 706) hu rfl | exact roomC (d := κ.un) (c := 806) hu rfl | exact roomC (d := κ.un) (c := 1506) hu rfl))
  k_with "hl9" =>
    (first | exact HasLt.here | ((with_reducible show HasLt _ _ (_ ∧ _)); exact HasLt.there (by k_extra "hl9")) | exact HasLt.last)
  k_with "my k_ne" =>
    ((fail_if_success (k_extra "nc off")); (try dsimp only); (first | (with_reducible assumption) | (with_reducible exact Ne.symm (by assumption)) | (with_reducible exact neC (by assumption) (by k_extra "hl9")) | (with_reducible exact neD (by assumption) (by k_extra "hl9"))))
  k_with "fold9" =>
    ((fail_if_success (fail_if_success k_fold)); (with_reducible refine foldQ ?_); intro qk; (try ((fail_if_success (fail_if_success ((with_reducible refine tstE ?_ (Or.inl ?_)); rotate_left; k_fold))); (with_reducible refine foldE ?_); intro ek)))
  k_with "my by_in" =>
    ((repeat' (first | (with_reducible assumption) | (with_reducible exact List.forall_mem_nil _) | (refine' List.forall_mem_cons.mpr ⟨?_, ?_⟩) | (with_reducible refine And.intro ?_ ?_))); done)
  k_with "storeName" =>
    (k_here; k_dflt (refine' storeX_M ?zsF ?zsN ?_ ?zsa ?zsb; (case zsF => k_asm); (case zsN => k_asm); (case zsa => rfl); (case zsb => rfl); k_whole; intro mm h' F' N'; (try k_sweep)))
  k_with "my k_in" =>
    (first
      | (with_reducible assumption)
      | k_in_fast
      | exact Frag.In.keeps (by k_asm) (Fr.keep (by k_asm)))
  k_with "callWith ref" =>
    (k_here; (first
      | ((with_reducible show wpAny _ _ (callWith _ (Value.ref _) _ (backTo _ (starEach (_ :: _) _)) []) _ _ _); k_dflt (refine' callWith_K ?fwa1 ?fwa2 ?_; (case fwa1 => k_asm); (case fwa2 => k_is); k_whole))
      | ((with_reducible show wpAny _ _ (callWith _ (Value.ref _) _ (backTo _ (starEach [] _)) []) _ _ _); k_dflt (refine' callWith_K0 ?fwb1 ?fwb2 ?_; (case fwb1 => k_in); (case fwb2 => k_is); k_whole))
      | fail))
  k_with "exec Assign cons ListComp" =>
    (first
      | ((with_reducible show wpAny _ _ (exec (Stmt.Assign [Expr.Tuple _ _ _] _ _) _) _ _ _); (first | k_dflt (refine Assign_Tuple_swapped ?_) | k_dflt (refine Assign_Tuple ?_) | fail))
      | k_dflt (refine wpAny_Assign_Name ?_)
      | fail)
  k_with "subscriptTail" =>
    (k_here; (with_reducible show wpAny _ _ (subscriptTail _ _ (Value.ref _) (Value.int _ _)) _ _ _); k_dflt (first
      | (refine' topTup_K ?fwcF ?fwcX ?fwcl ?fwca ?fwcb ?fwcc ?fwcd ?_; (case fwcF => k_asm); (case fwcX => k_asm); (case fwcl => k_is); (case fwca => decide); (case fwcb => decide); (case fwcc => rfl); (case fwcd => rfl))
      | (refine' topList_K ?fwdF ?fwdX ?fwdl ?fwda ?fwdb ?fwdd ?_; (case fwdF => k_asm); (case fwdX => k_asm); (case fwdl => k_is); (case fwda => decide); (case fwdb => decide); (case fwdd => rfl); k_whole)
      | (refine' item_tupleT ?fwet ?fwea ?fweb ?fwec ?fwed ?_; (case fwet => exact News.isTup (by k_asm) (by k_mem)); (case fwea => decide); (case fweb => decide); (case fwec => rfl); (case fwed => rfl); k_whole)
      | fail))
  trivial
section
set_option maxHeartbeats 800000
theorem take_spec_in {w : World} {p : Program} {loose : List Str} {mean : ExcName → Option Value} {mg mb : Str → Option Value}
  (κ : Cx) (A₀ : Around) (base h₀ : Heap) (m : Str → Option Value) (s : Shared) (Q E : Value → Shared → Prop)
  (src : Addr) (x y : Int) (tx ty : Tok) (n : Nat) (rest : Led) (k : Int) (tk : Tok) 
  (B : Below A₀ base κ.outer h₀) (F : Fr h₀ κ.L s.heap m) (X : (KH w.params).In h₀) (N : News h₀ κ.L s.heap ((src, pool x y tx ty n) :: rest)) (hne : ∀ p ∈ rest, p.1 ≠ src)
  (T : Top p loose mean mg mb h₀) (hk : κ.cs.kind = .function) (hp : 0 ≤ x ∧ 0 ≤ y ∧ y < 2147483647) (hk1 : 1 ≤ k) (hk2 : k ≤ 2 ^ 48)
  (hd : κ.dp + 1 < recursionLimit) (hu : κ.un + 8 < cLine)
  (ret : ∀ (d x' y' : Int) (t tx' ty' : Tok) (h' : Heap) (tk' : Nat), Fr h₀ κ.L h' m → News h₀ κ.L h' ((src, pool x' y' tx' ty' n) :: rest) → 0 ≤ d → d < k → 0 ≤ x' ∧ 0 ≤ y' ∧ y' < 2147483647 → Q (.int d t) { s with heap := h', toks := tk' }) :
  wpAny (model prg w) (T1 κ) (call (.ref (k_addr% "_law_take")) [.ref src, .int k tk]) Q E s := (by exact use_of : Use _ (by
 first
 | (
  refine wpAny_call ?_
  k_dflt k_enter
  k_steps
  all_goals exact ret _ _ _ _ _ _ _ _ (by k_asm) (by k_asm) (by omega) (by omega) (by omega))
 | fail))
theorem take_spec {w : World} {p : Program} {loose : List Str} {mean : ExcName → Option Value} {mg mb : Str → Option Value} 
  (dp un : Nat) (gd : Option (List Code)) (cn : Str) (cs : Scope) (a : Addr) (ccd : Value) (cl : List (Str × Addr)) (outer : List Env) (A₀ : Around) (base h₀ : Heap) (L : Addr) (m : Str → Option Value) (s : Shared) (Q E : Value → Shared → Prop)
  (src : Addr) (x y : Int) (tx ty : Tok) (n : Nat) (rest : Led) (k : Int) (tk : Tok) 
  (B : Below A₀ base outer h₀) (F : Fr h₀ L s.heap m) (X : (KH w.params).In h₀) (N : News h₀ L s.heap ((src, pool x y tx ty n) :: rest)) (hne : ∀ p ∈ rest, p.1 ≠ src)
  (T : Top p loose mean mg mb h₀) (hk : cs.kind = .function) (hp : 0 ≤ x ∧ 0 ≤ y ∧ y < 2147483647) (hk1 : 1 ≤ k) (hk2 : k ≤ 2 ^ 48)
  (hd : dp + 1 < recursionLimit) (hu : un + 8 < cLine)
  (ret : ∀ (d x' y' : Int) (t tx' ty' : Tok) (h' : Heap) (tk' : Nat), Fr h₀ L h' m → News h₀ L h' ((src, pool x' y' tx' ty' n) :: rest) → 0 ≤ d → d < k → 0 ≤ x' ∧ 0 ≤ y' ∧ y' < 2147483647 → Q (.int d t) { s with heap := h', toks := tk' }) :
  wpAny (model prg w) (ktrTop dp un gd cn cs L a ccd cl outer) (call (.ref (k_addr% "_law_take")) [.ref src, .int k tk]) Q E s :=
  take_spec_in ⟨dp, un, gd, cn, cs, L, a, ccd, cl, outer⟩ A₀ base h₀ m s Q E src x y tx ty n rest k tk B F X N hne T hk hp hk1 hk2 hd hu ret
end
section
set_option maxHeartbeats 800000
section exc
open PySem
abbrev excO (C t : Addr) (dx : Option Addr) : Obj := { cls := .ref C, dict := dx, data := .fields #[.ref t, .none, .none, .none, .bool false, .none] }
abbrev tupO (vs : List Value) : Obj := { cls := .type "tuple", data := .seq vs.toArray }

section
variable {M : Model} {A : Around} {E : Value → Shared → Prop} {h : Heap} {g : Array GenState} {d : Drawn} {t : Nat} {os : OsState}
variable {nm q : Str} {C N : Addr} {bs bm : List Value} {hdct : Bool} {sn : List Str} {sub : List Value} {ab : Bool} {col : Option Bool} {dd : Option Addr} {k0 k1 k2 k3 k5 : Option Value}

theorem exc_check_new {rest : List Value} {Q : Unit → Shared → Prop} (hB : bm.contains (.type "Exception") = true)
    (hC : h.get? C = some (excClassObj nm q C N bs bm hdct sn sub ab col dd k0 k1 k2 k3 k5 "Exception.__new__")) (hq : Q () ⟨h, g, d, t, os⟩) : wpAny M A (checkBuiltinCall "Exception.__new__" ⟨.ref C :: rest, []⟩) Q E ⟨h, g, d, t, os⟩ := (by exact use_of : Use _ (by
 first
 | (
  have Fn := PySem.F.excBase_Exception
  have hcont : (Value.ref C :: bm).contains (.type "Exception") = true := by rw [List.contains_cons, hB, Bool.or_true]
  have hstar := Fn.noStar
  simp only [checkBuiltinCall, Fn.newKind, Fn.newSplit, Fn.newRow]
  repeat (first | refine wpAny_loadPart_at hC ?_ | (refine wpAny_isSubtype_exc hC ?_; rw [hcont]) | refine wpAny_staticBase_exc hC ?_ | refine wpAny_madeBy_exc hC ?_ | simp only [bne_self_eq_false, Bool.false_eq_true, if_false] | wp_step)
  exact hq)
 | fail))

theorem exc_check_init {e : Addr} {oe : Obj} {rest : List Value} {Q : Unit → Shared → Prop} (hB : bm.contains (.type "Exception") = true)
    (hC : h.get? C = some (excClassObj nm q C N bs bm hdct sn sub ab col dd k0 k1 k2 k3 k5 "Exception.__new__")) (he : h.get? e = some oe) (hcls : oe.cls = .ref C) (hq : Q () ⟨h, g, d, t, os⟩) :
    wpAny M A (checkBuiltinCall "Exception.__init__" ⟨.ref e :: rest, []⟩) Q E ⟨h, g, d, t, os⟩ := (by exact use_of : Use _ (by
 first
 | (
  have F := PySem.F.excBase_Exception
  have hcB : (Value.ref C :: bm).contains (.type "Exception") = true := by rw [List.contains_cons, hB, Bool.or_true]
  have hshort := F.noStar
  simp only [checkBuiltinCall, F.initKind, F.initSplit, F.initRow]
  repeat (first | (with_reducible refine wpAny_loadPart_at he ?_; rw [hcls]) | with_reducible refine wpAny_loadPart_at hC ?_ | (with_reducible refine wpAny_isSubtype_exc hC ?_; rw [hcB]) | wp_step)
  refine wpAny_onRaise ?_
  rw [show ∀ (a b : String) (n : Nat), Bind.check ⟨.positional, "*", "Exception", .self, [⟨"args", .varPos, false⟩]⟩ a b n (List.map (fun x => x.fst) ({ pos := Value.ref e :: rest } : Args).kw) = pure () from
    fun a b n => check_star_args _ _ _ _ _ _]
  exact wpAny_pure hq)
 | fail))
end

section
variable {prog : Program} {w : World} {A : Around} {E : Value → Shared → Prop} {h : Heap} {g : Array GenState} {d : Drawn} {t : Nat} {os : OsState}
variable {nm q : Str} {C N : Addr} {bs bm : List Value} {hdct : Bool} {sn : List Str} {sub : List Value} {ab : Bool} {col : Option Bool} {dd : Option Addr} {k0 k1 k2 k3 k5 : Option Value}

theorem exc_init_call {e t0 : Addr} {dx : Option Addr} {rest : List Value} {Q : Value → Shared → Prop} (hB : bm.contains (.type "Exception") = true)
    (hC : h.get? C = some (excClassObj nm q C N bs bm hdct sn sub ab col dd k0 k1 k2 k3 k5 "Exception.__new__")) (he : h.get? e = some (excO C t0 dx))
    (hq : Q .none ⟨(h.push (tupO rest)).update e (Obj.mapFields (·.setIfInBounds 0 (.ref h.objs.size))), g, d, t, os⟩) (hrest : rest.length ≤ sizeLine := by size_fits) :
    wpAny (model prog w) A (call (.builtin "Exception.__init__") (.ref e :: rest)) Q E ⟨h, g, d, t, os⟩ := (by exact use_of : Use _ (by
 first
 | (
  have F := PySem.F.excBase_Exception
  refine wpAny_call (codeAny_call_builtin F.init.plain F.initEntry (exc_check_init hB hC he rfl ?_))
  wp_walk
  exact hq)
 | fail))

theorem exc_new {rest : List Value} {R : Result → Shared → Prop} (hB : bm.contains (.type "Exception") = true) (hA : bm.contains (.type "AttributeError") = false) (hN : bm.contains (.type "NameError") = false)
    (hC : h.get? C = some (excClassObj nm q C N bs bm hdct sn sub ab col dd k0 k1 k2 k3 k5 "Exception.__new__"))
    (hq : R (.ok (.ret (.ref (h.objs.size + 1)))) ⟨(h.push (tupO rest)).push (excO C h.objs.size none), g, d, t, os⟩) (hrest : rest.length ≤ sizeLine := by size_fits) :
    codeAny (model prog w) A (.builtin "Exception.__new__" ⟨.ref C :: rest, []⟩) R ⟨h, g, d, t, os⟩ := (by exact use_of : Use _ (by
 first
 | (
  have Fn := PySem.F.excBase_Exception
  have hends := Fn.ends
  have hcB : (Value.ref C :: bm).contains (.type "Exception") = true := by rw [List.contains_cons, hB, Bool.or_true]
  have hcA : (Value.ref C :: bm).contains (.type "AttributeError") = false := by rw [List.contains_cons, hA]; rfl
  have hcN : (Value.ref C :: bm).contains (.type "NameError") = false := by rw [List.contains_cons, hN]; rfl
  refine codeAny_builtinAt Fn.entry ?_
  unfold Builtin.«BaseException.__new__»
  refine PySem.wpAt_bind ?_
  show PySem.wpAt _ _ _ (stack >>= _) _ _ _
  refine PySem.wpAt_bind (PySem.wpAt_stack fun p below => PySem.wpAt_of_wpAny ?_)
  wp_walk
  refine PySem.wpAt_of_wpAny ?_
  rw [Fn.owner]
  repeat (first | with_reducible refine wpAny_madeHere_exc Fn.canon hC ?_ | with_reducible refine wpAny_loadPart_at hC ?_ | (with_reducible refine wpAny_isSubtype_exc hC ?_; first | rw [hcB] | rw [hcA] | rw [hcN]) | wp_step)
  show R _ _
  rw [Heap.size_push]
  exact hq)
 | fail))

theorem exc_type_call {rest : List Value} {fI : Addr} {Q : Fin → Shared → Prop} (hB : bm.contains (.type "Exception") = true) (hA : bm.contains (.type "AttributeError") = false) (hN : bm.contains (.type "NameError") = false)
    (hC : h.get? C = some (excClassObj nm q C N bs bm hdct sn sub ab col dd k0 k1 k2 k3 k5 "Exception.__new__"))
    (hi : Looks (model prog w) h (typeLookup (.ref C) "__init__") (some (.ref fI))) (hb : ∀ self, Looks (model prog w) h (bindSpecial (.ref fI) self) (.ref fI, [self]))
    (hq : wpAny (model prog w) A (call (.ref fI) (.ref (h.objs.size + 1) :: rest)) (fun r s' => r = .none ∧ Q (.done (.ret (.ref (h.objs.size + 1)))) s') E ⟨(h.push (tupO rest)).push (excO C h.objs.size none), g, d, t, os⟩)
    (hrest : rest.length ≤ sizeLine := by size_fits) :
    wpAny (model prog w) A (Builtin.«type.__call__» ⟨.ref C :: rest, []⟩) Q E ⟨h, g, d, t, os⟩ := (by exact use_of : Use _ (by
 first
 | (
  have Fn := PySem.F.excBase_Exception
  repeat (first | with_reducible refine wpAny_loadPart_at hC ?_ | with_reducible refine wpAny_madeBy_exc hC ?_ | wp_step)
  refine codeAny_call_builtin_code (Code.quiet_builtin _ Fn.quiet) (exc_check_new hB hC ?_)
  refine exc_new hB hA hN hC ?_ hrest
  show wpAny _ _ _ _ _ _
  have k : ∀ b o, h.get? b = some o → ((h.push (tupO rest)).push (excO C h.objs.size none)).get? b = some o := fun b o e => Heap.get?_push_of_some _ (Heap.get?_push_of_some _ e)
  have hC₁ := k _ _ hC
  have hget : ((h.push (tupO rest)).push (excO C h.objs.size none)).get? (h.objs.size + 1) = some (excO C h.objs.size none) := by heap_get
  have hcC : (Value.ref C :: bm).contains (.ref C) = true := by simp
  unfold isInstance
  repeat (first | with_reducible refine wpAny_loadPart_at hget ?_ | (with_reducible refine wpAny_isSubtype_exc hC₁ ?_; rw [hcC]) | wp_step)
  show wpAny _ _ (typeLookup (.ref C) _) _ _ _
  refine (hi.keeps k).at ?_
  refine wpAny_holding (wpAny_bind (((hb _).keeps k).at ?_))
  refine wpAny_bind (wpAny_mono hq (fun r s' hr => ?_) fun _ _ x => x)
  obtain ⟨rfl, hQ⟩ := hr
  wp_walk
  exact hQ)
 | fail))

theorem exc_call {rest : List Value} {fI : Addr} {Q : Value → Shared → Prop} (hB : bm.contains (.type "Exception") = true) (hA : bm.contains (.type "AttributeError") = false) (hN : bm.contains (.type "NameError") = false)
    (hC : h.get? C = some (excClassObj nm q C N bs bm hdct sn sub ab col dd k0 k1 k2 k3 k5 "Exception.__new__"))
    (hi : Looks (model prog w) h (typeLookup (.ref C) "__init__") (some (.ref fI))) (hb : ∀ self, Looks (model prog w) h (bindSpecial (.ref fI) self) (.ref fI, [self]))
    (hq : wpAny (model prog w) (A.under (.builtin "type.__call__" ⟨.ref C :: rest, []⟩)) (call (.ref fI) (.ref (h.objs.size + 1) :: rest)) (fun r s' => r = .none ∧ Q (.ref (h.objs.size + 1)) s') E ⟨(h.push (tupO rest)).push (excO C h.objs.size none), g, d, t, os⟩)
    (hrest : rest.length ≤ sizeLine := by size_fits) :
    wpAny (model prog w) A (call (.ref C) rest) Q E ⟨h, g, d, t, os⟩ := (by exact use_of : Use _ (by
 first
 | (
  have f1 := tc_lookup
  have f2 := tc_bind (.ref C)
  have hT : (⟨h, g, d, t, os⟩ : Shared).TypeIs (.ref C) "type" := ⟨_, hC, rfl⟩
  refine wpAny_call (codeAny_of_tree ?_)
  show wpAny _ _ (callAny (.ref C) _) _ _ _
  repeat (any_goals (first | assumption | with_reducible refine wpAny_loadPart_at hC ?_ | wp_step))
  refine ⟨rfl, ?_⟩
  refine codeAny_call_builtin_at (Code.quiet_builtin _ (by decide +kernel)) entry_typeCall (wpAny_check_type_call_sub hC (exc_type_call (hrest := hrest) hB hA hN hC hi hb ?_))
  exact hq)
 | fail))

theorem exc_raise {env : Env} {s : Shared} {x : Sem Value} {Q : Flow → Shared → Prop} (hh : A.handled = none)
    (h : wpAny (model prog w) A x (fun v s₁ => ∃ e t dx nm q C N bs bm hdct sn sub ab col dd k0 k1 k2 k3 k5 newId, v = .ref e ∧ bm.contains (.type "BaseException") = true ∧ s₁.heap.get? C = some (excClassObj nm q C N bs bm hdct sn sub ab col dd k0 k1 k2 k3 k5 newId) ∧
      s₁.heap.get? e = some (excO C t dx) ∧ E (.ref e) s₁) E s) :
    wpAny (model prog w) A (raiseStmt env (some x) none) Q E s := (by exact use_of : Use _ (by
 first
 | (
  unfold raiseStmt
  refine wpAny_bind (wpAny_mono h (fun v s₁ h₁ => ?_) fun _ _ x => x)
  obtain ⟨e, t, dx, nm, q, C, N, bs, bm, hdct, sn, sub, ab, col, dd, k0, k1, k2, k3, k5, newId, rfl, hbase, hC, he, hE⟩ := h₁
  have hcB : (Value.ref C :: bm).contains (.type "BaseException") = true := by rw [List.contains_cons, hbase, Bool.or_true]
  obtain ⟨hp, g, d, tk, os⟩ := s₁
  repeat (first | with_reducible refine wpAny_loadPart_at he ?_ | with_reducible refine wpAny_loadPart_at hC ?_ | (with_reducible refine wpAny_isSubtype_exc hC ?_; rw [hcB]) | wp_step)
  exact wpAny_raiseNew_none hh hE)
 | fail))
end
end exc
end
section
set_option maxHeartbeats 800000
section role
open PySem
def rolesS : List Str := ["master", "alternate", "root", "designated"]
def isRole (x : Str) : Bool := rolesS.any (· == x)
theorem roles_tup {P : Params} {h : Heap} (X : (KH P).In h) : ∃ t1 t2 t3 t4, IsTup h 73 #[.str "master" t1, .str "alternate" t2, .str "root" t3, .str "designated" t4] := ⟨_, _, _, _, _, X 73 _ (by k_is), rfl, _, rfl⟩
theorem role_notin {w : World} {A : Around} {E : Value → Shared → Prop} {s : Shared} {x : Str} {u : Tok} {Q : Value → Shared → Prop} (X : (KH w.params).In s.heap) (h : Q (.bool (!(isRole x))) s) :
    wpAny (model prg w) A (compareOp .NotIn (.str x u) (.ref 73)) Q E s := by
  obtain ⟨t1, t2, t3, t4, ht⟩ := roles_tup X
  exact notin_tuple_strs (ys := rolesS) ht (by unfold rolesS; repeat constructor) h
theorem role_notin_list {prog : Program} {w : World} {A : Around} {E : Value → Shared → Prop} {s : Shared} {x : Str} {u t1 t2 t3 t4 : Tok} {D : Addr} {Q : Value → Shared → Prop} (hl : s.heap.IsList D #[.str "master" t1, .str "alternate" t2, .str "root" t3, .str "designated" t4]) (h : Q (.bool (!(isRole x))) s) :
    wpAny (model prog w) A (compareOp .NotIn (.str x u) (.ref D)) Q E s :=
  notin_list_strs (vs := [.str "master" t1, .str "alternate" t2, .str "root" t3, .str "designated" t4]) (ys := rolesS) hl (by unfold rolesS; repeat constructor) h
def IsRow (inst low prio port : Int) (role : Str) : Prop := isRole role = true ∧ 1 ≤ inst ∧ inst ≤ 4094 ∧ low % 4096 = inst ∧ prio % 4096 = 0 ∧ port % 16 = 0
end role
end
section
set_option maxHeartbeats 800000
section role
open PySem
def roleIx (r : Str) : Int := if r = "master" then 0 else if r = "alternate" then 1 else if r = "root" then 2 else 3
theorem isRole_cases {r : Str} (h : isRole r = true) : r = "master" ∨ r = "alternate" ∨ r = "root" ∨ r = "designated" := by
  unfold isRole rolesS at h
  simp only [List.any_cons, List.any_nil, Bool.or_false, Bool.or_eq_true, beq_iff_eq] at h
  rcases h with h | h | h | h
  · exact .inl h.symm
  · exact .inr (.inl h.symm)
  · exact .inr (.inr (.inl h.symm))
  · exact .inr (.inr (.inr h.symm))
def strIs (r : Str) : Value → Bool
  | .str x _ => x.cps.toList == r.cps.toList
  | _ => false
theorem roles_eq {r : Str} {u t1 t2 t3 t4 : Tok} : ∀ y, y ∈ (#[.str "master" t1, .str "alternate" t2, .str "root" t3, .str "designated" t4] : Array Value) → MeetsSeq.EqGives y (.str r u) (strIs r y) := by
  intro y hy
  simp only [List.mem_toArray, List.mem_cons, List.not_mem_nil, or_false] at hy
  rcases hy with rfl | rfl | rfl | rfl <;> exact SeqRoads2.EqGives.str _ _ _ _
theorem role_index_list {w : World} {A : Around} {E : Value → Shared → Prop} {h₀ : Heap} {L : Addr} {s : Shared} {news : Led} {D : Addr} {n : Nat} {t1 t2 t3 t4 : Tok} {r : Str} {u : Tok} {Q : Value → Shared → Prop} (hr : isRole r = true)
    (N : News h₀ L s.heap news) (hm : (D, listOf #[.str "master" t1, .str "alternate" t2, .str "root" t3, .str "designated" t4] n) ∈ news)
    (h : Q (.int (roleIx r) s.toks) { s with toks := s.toks + 1 }) : wpAny (model prg w) A (call (.builtin "list.index") [.ref D, .str r u]) Q E s := (by exact use_of : Use _ (by
 first
 | (
  have hl := (N _ hm).1
  have key : ∀ (e : Value → Bool) (j : Nat), (∀ y, y ∈ (#[.str "master" t1, .str "alternate" t2, .str "root" t3, .str "designated" t4] : Array Value) → MeetsSeq.EqGives y (.str r u) (e y)) → ∀ (hj : j < 4), e ((#[.str "master" t1, .str "alternate" t2, .str "root" t3, .str "designated" t4] : Array Value)[j]) = true →
      (∀ i (hi : i < 4), i < j → e ((#[.str "master" t1, .str "alternate" t2, .str "root" t3, .str "designated" t4] : Array Value)[i]) = false) → ((j : Nat) : Int) = roleIx r → wpAny (model prg w) A (call (.builtin "list.index") [.ref D, .str r u]) Q E s := by
    intro e j he hj h1 h2 h3
    refine call_meets PySem.F.slot_list_index ⟨_, hl, rfl⟩ PySem.F.entry_list_index (PySem.F.args_list_index_2 _ _)
      (MeetsSeq.list_index D _ n (.str r u) e he j hj (by omega) h1 (fun i hi hlt => h2 i hi hlt)) ⟨hl, ?_⟩
    show Q _ _
    rw [h3]; exact h
  have he : ∀ y, y ∈ (#[.str "master" t1, .str "alternate" t2, .str "root" t3, .str "designated" t4] : Array Value) → MeetsSeq.EqGives y (.str r u) (strIs r y) := roles_eq
  rcases isRole_cases hr with rfl | rfl | rfl | rfl
  · exact key _ 0 he (by decide) (by kernel_rfl) (by intro i hi hlt; omega) (by kernel_rfl)
  · exact key _ 1 he (by decide) (by kernel_rfl) (by intro i hi hlt; rcases i with _ | i <;> first | omega | kernel_rfl) (by kernel_rfl)
  · exact key _ 2 he (by decide) (by kernel_rfl) (by intro i hi hlt; rcases i with _ | _ | i <;> first | omega | kernel_rfl) (by kernel_rfl)
  · exact key _ 3 he (by decide) (by kernel_rfl) (by intro i hi hlt; rcases i with _ | _ | _ | i <;> first | omega | kernel_rfl) (by kernel_rfl))
 | fail))
theorem role_index_tuple {w : World} {A : Around} {E : Value → Shared → Prop} {s : Shared} {r : Str} {u : Tok} {Q : Value → Shared → Prop} (hr : isRole r = true)
    (X : (KH w.params).In s.heap)
    (h : Q (.int (roleIx r) s.toks) { s with toks := s.toks + 1 }) : wpAny (model prg w) A (call (.builtin "tuple.index") [.ref 73, .str r u]) Q E s := (by exact use_of : Use _ (by
 first
 | (
  obtain ⟨t1, t2, t3, t4, o, ho, hc, n, hd⟩ := roles_tup X
  have he := roles_eq (r := r) (u := u) (t1 := t1) (t2 := t2) (t3 := t3) (t4 := t4)
  have e1 := he _ (by simp : Value.str "master" t1 ∈ _)
  have e2 := he _ (by simp : Value.str "alternate" t2 ∈ _)
  have e3 := he _ (by simp : Value.str "root" t3 ∈ _)
  have e4 := he _ (by simp : Value.str "designated" t4 ∈ _)
  have M : PySem.Meets (Builtin.«tuple.index» ⟨[.ref 73, .str r u], []⟩)
      (fun _ R s => s.heap.get? 73 = some o ∧ R (.ok (.ret (.int (roleIx r) s.toks))) { s with toks := s.toks + 1 }) := by
    intro prog w A R s h
    obtain ⟨hp, g, d, tk, os⟩ := s; obtain ⟨hl, h⟩ := h
    wp_walk using wpAny_loadPart' hl
    rw [hd]
    wp_walk
    have hr4 : ∀ (f : Nat → Option Fin × Unit → Sem (ForInStep (Option Fin × Unit))), (forIn [0:min 4 4] (none, ()) f : Sem (Option Fin × Unit)) = forIn [0, 1, 2, 3] (none, ()) f := by
      intro f
      rw [Std.Legacy.Range.forIn_eq_forIn_range']
      rfl
    refine Eq.mpr (congrArg (fun x => wpAny (model prog w) A.in1 x _ _ _) (hr4 _)) ?_
    simp only [List.forIn_cons]
    rcases isRole_cases hr with rfl | rfl | rfl | rfl
    · refine wpAny_bind (wpAny_bind (e1 prog w _ _ _ _ ?_))
      rw [show strIs "master" (.str "master" t1) = true from by kernel_rfl, if_pos rfl]
      wp_walk
      exact h
    · refine wpAny_bind (wpAny_bind (e1 prog w _ _ _ _ ?_))
      rw [show strIs "alternate" (.str "master" t1) = false from by kernel_rfl, if_neg Bool.false_ne_true]
      refine wpAny_pure ?_
      dsimp only
      refine wpAny_bind (wpAny_bind (e2 prog w _ _ _ _ ?_))
      rw [show strIs "alternate" (.str "alternate" t2) = true from by kernel_rfl, if_pos rfl]
      wp_walk
      exact h
    · refine wpAny_bind (wpAny_bind (e1 prog w _ _ _ _ ?_))
      rw [show strIs "root" (.str "master" t1) = false from by kernel_rfl, if_neg Bool.false_ne_true]
      refine wpAny_pure ?_
      dsimp only
      refine wpAny_bind (wpAny_bind (e2 prog w _ _ _ _ ?_))
      rw [show strIs "root" (.str "alternate" t2) = false from by kernel_rfl, if_neg Bool.false_ne_true]
      refine wpAny_pure ?_
      dsimp only
      refine wpAny_bind (wpAny_bind (e3 prog w _ _ _ _ ?_))
      rw [show strIs "root" (.str "root" t3) = true from by kernel_rfl, if_pos rfl]
      wp_walk
      exact h
    · refine wpAny_bind (wpAny_bind (e1 prog w _ _ _ _ ?_))
      rw [show strIs "designated" (.str "master" t1) = false from by kernel_rfl, if_neg Bool.false_ne_true]
      refine wpAny_pure ?_
      dsimp only
      refine wpAny_bind (wpAny_bind (e2 prog w _ _ _ _ ?_))
      rw [show strIs "designated" (.str "alternate" t2) = false from by kernel_rfl, if_neg Bool.false_ne_true]
      refine wpAny_pure ?_
      dsimp only
      refine wpAny_bind (wpAny_bind (e3 prog w _ _ _ _ ?_))
      rw [show strIs "designated" (.str "root" t3) = false from by kernel_rfl, if_neg Bool.false_ne_true]
      refine wpAny_pure ?_
      dsimp only
      refine wpAny_bind (wpAny_bind (e4 prog w _ _ _ _ ?_))
      rw [show strIs "designated" (.str "designated" t4) = true from by kernel_rfl, if_pos rfl]
      wp_walk
      exact h
  refine call_meets PySem.F.slot_tuple_index ⟨_, ho, hc⟩ PySem.F.entry_tuple_index (PySem.F.args_tuple_index_2 _ _) M ⟨ho, ?_⟩
  exact h)
 | fail))
end role
end
section
set_option maxHeartbeats 800000
section comp
open PySem PyProof.Rows.LCg
section
variable {prog : Program} {w : World} {A : Around} {s : Shared} {h₀ : Heap} {L : Addr} {m : Str → Option Value} {env : Env}
theorem compEnd_mono {s₁ : Shared} {I C D : Addr} {oI oC oD : Obj} {S : Led → Prop} {R R' : Value → Led → Prop} {y : Value} {s₂ : Shared} (h : CompEnd h₀ L m s₁ I oI C oC D oD S R y s₂) (k : ∀ n, R y n → R' y n) : CompEnd h₀ L m s₁ I oI C oC D oD S R' y s₂ := by
  obtain ⟨h', tk, n, e, F, N, o, hS, r⟩ := h
  exact ⟨h', tk, n, e, F, N, o, hS, k n r⟩
/-- one turn of a comprehension with a test, by what it leaves of its list -/
theorem McL.stepT {elt c : PySem.Expr} {scope : Scope} {cl : List (Str × Addr)} {S : Led → Prop} {Fin : List Value → Led → Prop} {asg : Asg} {r : List Asg} {ys : List Value} {news : Led} (post : List Value → Prop)
    (h : ∀ I oI C oC D m₂ h tk (E' : Value → Shared → Prop), NsObj oC m₂ → asg m₂ → Fr h₀ L h m → News h₀ L h ((I, oI) :: (C, oC) :: (D, lst ys) :: news) → Off3 I C D news → ((@Ne Nat I C) ∧ (@Ne Nat I D) ∧ (@Ne Nat C D)) →
      wpAny (model prog w) A (isTrue c (compEnvC scope cl C env) (eval c (compEnvC scope cl C env))) (fun ok s₃ => if ok = true then wpAny (model prog w) A (eval elt (compEnvC scope cl C env)) (CompEnd h₀ L m { s with heap := h, toks := tk } I oI C oC D (lst ys) S (fun y news' => news' = news ∧ post (ys ++ [y]))) E' s₃
        else CompEnd h₀ L m { s with heap := h, toks := tk } I oI C oC D (lst ys) S (fun _ news' => news' = news ∧ post ys) .none s₃) E' { s with heap := h, toks := tk })
    (hr : ∀ ys', post ys' → McL prog w A h₀ L m env elt [c] scope cl s S Fin r ys' news) :
    McL prog w A h₀ L m env elt [c] scope cl s S Fin (asg :: r) ys news := (by exact use_of : Use _ (by
 first
 | (
  refine McL.turnT fun I oI C oC D m₂ hp tk E' h1 h2 h3 h4 h5 h6 => ?_
  refine wpAny_mono (h I oI C oC D m₂ hp tk E' h1 h2 h3 h4 h5 h6) (fun ok s₃ z => ?_) fun _ _ z => z
  split at z
  · rw [if_pos (by assumption)]
    refine wpAny_mono z (fun y s₄ z => compEnd_mono z fun n e => ?_) fun _ _ z => z
    obtain ⟨rfl, e⟩ := e
    exact hr _ e
  · rw [if_neg (by assumption)]
    refine compEnd_mono z fun n e => ?_
    obtain ⟨rfl, e⟩ := e
    exact hr _ e)
 | fail))
end
/-- the ints of a short list, and their sum -/
def SumIs (n : Nat) (ys : List Value) (v : Int) : Prop := ∃ ks, IntsAre ys ks ∧ ks.length ≤ n ∧ ks.sum = v
theorem SumIs.nil : SumIs 0 [] 0 := ⟨[], .nil, Nat.le_refl _, rfl⟩
theorem SumIs.more {n : Nat} {ys : List Value} {v k : Int} {t : Tok} (h : SumIs n ys v) : SumIs (n + 1) (ys ++ [.int k t]) (v + k) := by
  obtain ⟨ks, a, b, c⟩ := h
  exact ⟨ks ++ [k], a.append (.cons k t .nil), by rw [List.length_append, List.length_cons, List.length_nil]; omega, by rw [List.sum_append, c]; simp⟩
theorem SumIs.keep {n : Nat} {ys : List Value} {v : Int} (h : SumIs n ys v) : SumIs (n + 1) ys v := by
  obtain ⟨ks, a, b, c⟩ := h
  exact ⟨ks, a, by omega, c⟩
theorem SumIs.keep0 {n : Nat} {ys : List Value} {v : Int} (h : SumIs n ys v) : SumIs (n + 1) ys (v + 0) := by rw [Int.add_zero]; exact h.keep
def RoomIs (n : Nat) (ys : List Value) (P : Prop) : Prop := ∃ ks, IntsAre ys ks ∧ ks.length ≤ n ∧ (ks = [] ↔ P)
theorem RoomIs.nil : RoomIs 0 [] True := ⟨[], .nil, by decide, by simp⟩
theorem RoomIs.keep {n : Nat} {ys : List Value} {P C : Prop} (h : RoomIs n ys P) (hc : C) : RoomIs (n + 1) ys (P ∧ C) := by
  obtain ⟨ks, a, b, c⟩ := h
  exact ⟨ks, a, by omega, by rw [c]; exact ⟨fun p => ⟨p, hc⟩, fun p => p.1⟩⟩
theorem RoomIs.more {n : Nat} {ys : List Value} {P C : Prop} {k : Int} {t : Tok} (h : RoomIs n ys P) (hc : ¬C) : RoomIs (n + 1) (ys ++ [.int k t]) (P ∧ C) := by
  obtain ⟨ks, a, b, c⟩ := h
  refine ⟨ks ++ [k], a.append (.cons k t .nil), by rw [List.length_append]; simp; omega, ?_⟩
  constructor
  · intro q; simp at q
  · intro q; exact absurd q.2 hc
def bitIf (f : Bool) (k : Int) : Int := if f = true then k else 0
theorem bitIf_t {k : Int} : bitIf true k = k := rfl
theorem bitIf_f {k : Int} : bitIf false k = 0 := rfl
def flagSum (f1 f2 f3 f4 f5 : Bool) : Int := 0 + bitIf f1 1 + bitIf f2 2 + bitIf f3 16 + bitIf f4 32 + bitIf f5 64
theorem flagSum_in {f1 f2 f3 f4 f5 : Bool} : 0 ≤ flagSum f1 f2 f3 f4 f5 ∧ flagSum f1 f2 f3 f4 f5 ≤ 115 := by
  revert f1 f2 f3 f4 f5; decide
theorem roleIx_in {r : Str} : 0 ≤ roleIx r ∧ roleIx r ≤ 3 := by
  unfold roleIx
  repeat (first | split | omega)
theorem tup_method {w : World} {A : Around} {E : Value → Shared → Prop} {s : Shared} {pl : Sem Bool} {Q : Value × List Value → Shared → Prop} (X : (KH w.params).In s.heap)
    (h : Q (.builtin "tuple.index", [.ref 73]) s) : wpAny (model prg w) A (getMethod (.ref 73) "index" pl) Q E s := (by exact use_of : Use _ (by
 first
 | (
  have ho := X 73 _ (by k_is)
  refine getMethod_builtin ⟨_, ho, rfl⟩ PySem.F.plainAttrs_tuple PySem.F.slot_tuple_index PySem.F.type_tuple_index (fun a e => ?_) h
  cases e
  exact ⟨_, ho, rfl⟩)
 | fail))
end comp
end
section
set_option maxHeartbeats 800000
section role
open PySem
def roleAt (k : Int) : Str := if k = 0 then "master" else if k = 1 then "alternate" else if k = 2 then "root" else "designated"
section
variable {prog : Program} {w : World} {A : Around} {E : Value → Shared → Prop} {s : Shared} {k : Int} {u : Tok} {Q : Value → Shared → Prop}
/-- an item of a list, by an index within it -/
theorem item_any {value slice : PySem.Expr} {l : Addr} {vs : List Value}
    (hl : s.heap.IsList l vs.toArray) (h0 : 0 ≤ k) (h1 : k < (vs.length : Int)) (hz : vs.length ≤ 1000) (h : ∀ v, vs[k.toNat]? = some v → Q v s)
    (hs : subscripted slice false (.ref l) (.int k u) = operate [.ref l, .int k u] (getItem (.ref l) (.int k u)) := by with_unfolding_all rfl) :
    wpAny (model prog w) A (subscriptTail value slice (.ref l) (.int k u)) Q E s := by
  have hlt : k.toNat < vs.length := by omega
  exact item_lit hl h0 (by omega) (List.getElem?_eq_getElem hlt) (h _ (List.getElem?_eq_getElem hlt)) hs
theorem item_byte {value slice : PySem.Expr} {b : Array UInt8} {tb : Tok} {ks : List Int} {v : Int} (hk : KBw.bInts b = ks) (h0 : 0 ≤ k) (h1 : k < (ks.length : Int)) (hz : ks.length ≤ 1000) (hx : ks[k.toNat]? = some v)
    (h : ∀ t' n, 0 ≤ v → v < 256 → Q (.int v t') { s with toks := n })
    (hs : subscripted slice false (.bytes b tb) (.int k u) = operate [.bytes b tb, .int k u] (getItem (.bytes b tb) (.int k u)) := by with_unfolding_all rfl)
    (ht : ∀ r, letTemporaryGo value (.bytes b tb) r = pure () := by intro _; with_unfolding_all rfl) :
    wpAny (model prog w) A (subscriptTail value slice (.bytes b tb) (.int k u)) Q E s := by
  refine KBw.item_K hk (by omega) h0 h1 (fun t' n a b => ?_) hs ht
  have e : ks.getD k.toNat 0 = v := by rw [List.getD_eq_getElem?_getD, hx]; rfl
  rw [e] at a b ⊢
  exact h t' n a b
theorem slice_lit {value slice : PySem.Expr} {b : Array UInt8} {tb : Tok} {ks r : List Int} {h₀ : Heap} {L : Addr} {m : Str → Option Value} {news : Led} {l v : Value} {lo hi : Option Int} (hF : Fr h₀ L s.heap m) (hN : News h₀ L s.heap news) (hk : KBw.bInts b = ks) (hl : IsPart l lo) (hu : IsPart v hi) (hz : ks.length ≤ 16777216)
    (hr : (ks.drop (lo.elim 0 (clipAt ks.length))).take (hi.elim ks.length (clipAt ks.length) - lo.elim 0 (clipAt ks.length)) = r)
    (h : ∀ b2 h' t' n, Fr h₀ L h' m → News h₀ L h' news → KBw.bInts b2 = r → Q (.bytes b2 t') { s with heap := h', toks := n })
    (hs : subscripted slice false (.bytes b tb) (.ref s.heap.objs.size) = operate [.ref s.heap.objs.size, .bytes b tb] (getItem (.bytes b tb) (.ref s.heap.objs.size)) := by with_unfolding_all rfl)
    (ht : ∀ r, letTemporaryGo value (.bytes b tb) r = pure () := by intro _; with_unfolding_all rfl) :
    wpAny (model prog w) A (subscriptTail value slice (.bytes b tb) (.ref s.heap.objs.size)) Q E { s with heap := s.heap.push { cls := .type "slice", data := .fields #[l, v, .none] } } :=
  KBc.slice_K hF hN hk hl hu hz (fun h' t' n F' N' e => h _ h' t' n F' N' (e.trans hr)) hs ht
theorem role_pick {t1 t2 t3 t4 : Tok} (h0 : 0 ≤ k) (h1 : k < 4) : ∃ t, ([.str "master" t1, .str "alternate" t2, .str "root" t3, .str "designated" t4] : List Value)[k.toNat]? = some (.str (roleAt k) t) := by
  have : k = 0 ∨ k = 1 ∨ k = 2 ∨ k = 3 := by omega
  rcases this with rfl | rfl | rfl | rfl
  · exact ⟨t1, rfl⟩
  · exact ⟨t2, rfl⟩
  · exact ⟨t3, rfl⟩
  · exact ⟨t4, rfl⟩
end
theorem role_at_tuple {w : World} {A : Around} {E : Value → Shared → Prop} {s : Shared} {k : Int} {u : Tok} {Q : Value → Shared → Prop} {value slice : PySem.Expr} (X : (KH w.params).In s.heap) (h0 : 0 ≤ k) (h1 : k < 4)
    (h : ∀ t, Q (.str (roleAt k) t) s) (hs : subscripted slice false (.ref 73) (.int k u) = operate [.ref 73, .int k u] (getItem (.ref 73) (.int k u)) := by with_unfolding_all rfl) :
    wpAny (model prg w) A (subscriptTail value slice (.ref 73) (.int k u)) Q E s := by
  obtain ⟨t1, t2, t3, t4, ht⟩ := roles_tup X
  obtain ⟨t, e⟩ := role_pick (t1 := t1) (t2 := t2) (t3 := t3) (t4 := t4) h0 h1
  have q : seqIndex? k 4 = some k.toNat := by
    have q : k = 0 ∨ k = 1 ∨ k = 2 ∨ k = 3 := by omega
    rcases q with rfl | rfl | rfl | rfl <;> rfl
  exact tail_any ht.typeIs slot_tuple_getitem.lookup (getItem_tuple (j := k.toNat) ht (by omega) (by omega) q (by simpa using e) (h t)) hs
theorem role_at_list {w : World} {A : Around} {E : Value → Shared → Prop} {s : Shared} {k : Int} {u : Tok} {Q : Value → Shared → Prop} {value slice : PySem.Expr} {D : Addr} {t1 t2 t3 t4 : Tok}
    (hl : s.heap.IsList D #[.str "master" t1, .str "alternate" t2, .str "root" t3, .str "designated" t4]) (h0 : 0 ≤ k) (h1 : k < 4)
    (h : ∀ t, Q (.str (roleAt k) t) s) (hs : subscripted slice false (.ref D) (.int k u) = operate [.ref D, .int k u] (getItem (.ref D) (.int k u)) := by with_unfolding_all rfl) :
    wpAny (model prg w) A (subscriptTail value slice (.ref D) (.int k u)) Q E s := by
  obtain ⟨t, e⟩ := role_pick (t1 := t1) (t2 := t2) (t3 := t3) (t4 := t4) h0 h1
  exact item_lit (vs := [.str "master" t1, .str "alternate" t2, .str "root" t3, .str "designated" t4]) hl h0 (by omega) e (h t) hs
end role
end
section
set_option maxHeartbeats 800000
section rr
open PySem
def bitAt (o k : Int) : Bool := decide (o / k % 2 = 1)
theorem bitAt1 {o : Int} : (o % 2 != 0) = bitAt o 1 := by
  unfold bitAt
  rw [Int.ediv_one]
  have : o % 2 = 0 ∨ o % 2 = 1 := by omega
  rcases this with h | h <;> rw [h] <;> rfl
theorem bitAtk {o k : Int} (hk : 0 < k) : (o / k % 2 * k != 0) = bitAt o k := by
  unfold bitAt
  have : o / k % 2 = 0 ∨ o / k % 2 = 1 := by omega
  rcases this with h | h
  · rw [h, Int.zero_mul]; rfl
  · rw [h, Int.one_mul]
    have : k ≠ 0 := by omega
    simp [this]
theorem flags_stored {a b c d e : Value} : stored (stored (stored (stored (stored ([] : List (Str × Value)) "change" a) "proposal" b) "learning" c) "forwarding" d) "agreement" e = [(("change" : Str), a), ("proposal", b), ("learning", c), ("forwarding", d), ("agreement", e)] := by kernel_rfl
theorem news_rr {h₀ h : Heap} {L : Addr} {a b c d e f : Addr × Obj} {r led : Led} (N : News h₀ L h (a :: b :: c :: d :: e :: f :: r)) (hs : ∀ p ∈ led, p ∈ r) : News h₀ L h (a :: b :: e :: f :: led) := by
  intro p hp
  refine N p ?_
  simp only [List.mem_cons] at hp ⊢
  rcases hp with h | h | h | h | h
  · exact .inl h
  · exact .inr (.inl h)
  · exact .inr (.inr (.inr (.inr (.inl h))))
  · exact .inr (.inr (.inr (.inr (.inr (.inl h)))))
  · exact .inr (.inr (.inr (.inr (.inr (.inr (hs _ h))))))
end rr
end
section
set_option maxHeartbeats 2000000
/-- a ledger's entries, found one by one in another -/
inductive Picks : Led → Led → Prop
  | self {r : Led} : Picks r r
  | up {p : Addr × Obj} {r led : Led} : Picks r led → Picks r (p :: led)
  | cons {a : Addr} {o : Obj} {r led led' : Led} : Without a o led led' → Picks r led' → Picks ((a, o) :: r) led
theorem Picks.sub {r led : Led} (h : Picks r led) : ∀ p ∈ r, p ∈ led := by
  induction h with
  | self => exact fun _ h => h
  | up _ ih => exact fun p hp => .tail _ (ih p hp)
  | cons w _ ih =>
    intro p hp
    rcases List.mem_cons.mp hp with rfl | hp
    · exact w.sub _ (.head _)
    · exact w.sub _ (.tail _ (ih p hp))
theorem news_pick {h₀ h : Heap} {L : Addr} {r led : Led} (N : News h₀ L h led) (hs : Picks r led) : News h₀ L h r := fun p hp => N p (hs.sub p hp)
theorem mem_pick {a : Addr} {o : Obj} {led r : Led} (w : Without a o led r) : (a, o) ∈ led := w.sub _ (.head _)
end
section
set_option maxHeartbeats 800000
section excset
open PySem Builtin Builtin.ObjectAttr
variable {prog : Program} {w : World} {A : Around} {E : Value → Shared → Prop} {h : Heap} {g : Array GenState} {d : Drawn} {t : Nat} {os : OsState}
variable {nm q : Str} {C N : Addr} {bs bm : List Value} {sn : List Str} {sub : List Value} {ab : Bool} {col : Option Bool} {dd : Option Addr} {k0 k1 k2 k3 k5 : Option Value} {newId : String} {name : Str} {v : Value}

theorem exc_store_entry {e t0 : Addr} {tk : Tok} {Q : Fin → Shared → Prop} 
    (hC : h.get? C = some (excClassObj nm q C N bs bm true sn sub ab col dd k0 k1 k2 k3 k5 newId)) (hpass : ∀ self, refuseLoop self "__setattr__" (.ref C :: bm) = pure ())
    (hna : Looks (model prog w) h (typeLookup (.ref C) name) none) (hx : h.get? e = some (excO C t0 none))
    (hq : ∀ h' tk' dx, h'.get? e = some (excO C t0 (some dx)) → (∀ b o, b ≠ e → h.get? b = some o → h'.get? b = some o) → Q (.done (.ret .none)) ⟨h', g, d, tk', os⟩) :
    wpAny (model prog w) A (Builtin.«object.__setattr__» ⟨[.ref e, .str name tk, v], []⟩) Q E ⟨h, g, d, t, os⟩ := (by exact use_of : Use _ (by
 first
 | (
  have hp := hpass (.ref e)
  obtain ⟨o, ho⟩ : ∃ o, o = excO C t0 none := ⟨_, rfl⟩
  have hc : o.cls = .ref C := by rw [ho]
  have hdn : o.dict = none := by rw [ho]
  have hnc : ∀ c, o.data ≠ .cls c := by rw [ho]; intro c z; cases z
  rw [← ho] at hx
  unfold Builtin.«object.__setattr__»
  repeat (first | rw [refuse_eq] | rw [hp] | (with_reducible refine wpAny_loadPart_at hx ?_; rw [hc]) | with_reducible refine wpAny_mroOf_exc hC ?_ | with_reducible refine hna.at ?_ | wp_step)
  rw [hdn, if_neg (by simp [typeHasDict])]
  split
  · rename_i hcd
    cases hcd
  split
  · rename_i c hcd
    exact absurd hcd (hnc c)
  have hx₁ : (h.push { cls := .type "dict", data := .dict #[] }).get? e = some o := Heap.get?_push_of_some _ hx
  have hxs : e ≠ h.objs.size := Nat.ne_of_lt (Heap.lt_size hx)
  refine wpAny_bind (wpAny_alloc' ?_)
  refine wpAny_bind (wpAny_update' hx₁ ?_)
  refine wpAny_pure ?_
  have hgd : ((h.push { cls := .type "dict", data := .dict #[] }).update e fun o => { cls := o.cls, dict := some h.objs.size, data := o.data, slots := o.slots }).get? h.objs.size
      = some { cls := .type "dict", data := .dict #[] } :=
    (Heap.get?_update_ne _ _ _ _ hxs.symm).trans (Heap.get?_push_at rfl rfl)
  have hnd : ((h.push { cls := .type "dict", data := .dict #[] }).update e fun o => { cls := o.cls, dict := some h.objs.size, data := o.data, slots := o.slots }).Ns h.objs.size (fun _ => none) :=
    ⟨_, #[], _, hgd, rfl, fun e he => absurd he (by simp), fun _ => rfl⟩
  show wpAny _ _ (storeInDict h.objs.size (.str name tk) name v) _ _ _
  unfold storeInDict newKeyGuard
  refine wpAny_bind (wpAny_pure (wpAny_bind (wpAny_nsSet1 (Heap.Ns1.of_empty hnd) fun h' hn' hs => ?_)))
  obtain ⟨oD, esD, epD, hoD, hdD, hcD⟩ := hn'.count (Within.cons name v Within.nil)
  refine wpAny_bind (wpAny_lookBehind hoD (by rw [hdD]; exact pastItsLine_dict (Nat.le_trans hcD (by rw [List.length_cons, List.length_nil, sizeLine_eq]; omega))) ?_)
  wp_walk
  refine hq h' _ h.objs.size ?_ fun b ob hbx hb => ?_
  · exact (hs.2 e hxs).trans (Heap.get?_update_self _ hx₁ (by rw [ho]; rfl)) |>.trans (by rw [ho])
  · exact (hs.2 b (Nat.ne_of_lt (Heap.lt_size hb))).trans ((Heap.get?_update_ne _ _ _ _ hbx).trans (Heap.get?_push_of_some _ hb)))
 | fail))

theorem exc_store {e t0 : Addr} {Q : Unit → Shared → Prop}
    (hC : h.get? C = some (excClassObj nm q C N bs bm true sn sub ab col dd k0 k1 k2 k3 k5 newId)) (hpass : ∀ self, refuseLoop self "__setattr__" (.ref C :: bm) = pure ()) (hob : bm.contains (.type "object") = true)
    (hsa : Looks (model prog w) h (typeLookup (.ref C) "__setattr__") (some (.builtin "object.__setattr__"))) (hna : Looks (model prog w) h (typeLookup (.ref C) name) none) (hx : h.get? e = some (excO C t0 none))
    (hq : ∀ h' tk' dx, h'.get? e = some (excO C t0 (some dx)) → (∀ b o, b ≠ e → h.get? b = some o → h'.get? b = some o) → Q () ⟨h', g, d, tk', os⟩) :
    wpAny (model prog w) A (setAttr (.ref e) name v) Q E ⟨h, g, d, t, os⟩ := (by exact use_of : Use _ (by
 first
 | (
  have SF := PySem.F.store_object
  have hcO : (Value.ref C :: bm).contains (.type "object") = true := by rw [List.contains_cons, hob, Bool.or_true]
  have L0 : Looks (model prog w) h (typeOf (.ref e)) (.ref C) := (Looks.ld hx).andThen .now
  have L1 : Looks (model prog w) h (isSubtype (.ref C) (.type "object")) true := by
    intro A' Q' E' s' k q'
    obtain ⟨hh, g', d', t', os'⟩ := s'
    refine wpAny_isSubtype_exc (k _ _ hC) ?_
    rw [hcO]; exact q'
  refine wpAny_bind (wpAny_mkText (wpAny_bind (wpAny_bind (wpAny_bind (L0.at (hsa.at (wpAny_holding ?_)))))))
  rw [SF.slot.bind]
  refine wpAny_bind (wpAny_pure (wpAny_bind (wpAny_call ?_)))
  refine codeAny_call_builtin SF.slot.plain SF.entry (@check_slot (model prog w) _ _ _ "object.__setattr__" "object" "__setattr__" (.ref e) [.str name _, v] [] _ SF.kind SF.split (L0.andThen L1) (SF.args (.ref e) (.str name _) v) ?_)
  refine exc_store_entry hC hpass hna hx fun h' tk' dx h1 h2 => ?_
  exact wpAny_pure (wpAny_pure (hq h' tk' dx h1 h2)))
 | fail))
end excset
end
section
set_option maxHeartbeats 800000
section size
open PySem
theorem size_cls {P : Params} {h : Heap} (X : (KH P).In h) : ∃ nm q bs sn sub ab col dd k0 k1 k2 k3 k5, h.get? 44 = some (excClassObj nm q 44 43 bs [.ref 31, .type "Exception", .type "BaseException", .type "object"] true sn sub ab col dd k0 k1 k2 k3 k5 "Exception.__new__") :=
  ⟨_, _, _, _, _, _, _, _, _, _, _, _, _, X 44 _ (by k_is)⟩
theorem size_pass (self : Value) : refuseLoop self "__setattr__" [.ref 44, .ref 31, .type "Exception", .type "BaseException", .type "object"] = pure () := by
  rw [refuseLoop_ref, refuseLoop_ref]
  exact PySem.F.store_Exception.passes self
theorem exc_meta : typeOf (.type "Exception") = pure (.type "type") := by kernel_rfl

section
variable {prog : Program} {w : World} {A : Around} {E : Value → Shared → Prop} {s : Shared} {h₀ : Heap} {L : Addr} {m : Str → Option Value} {rest : Led} {e t0 : Addr} {v : Value}
theorem fr_upd {h h' : Heap} (F : Fr h₀ L h m) {o : Obj} (N : News h₀ L h ((e, o) :: rest)) (k : ∀ b o, b ≠ e → h.get? b = some o → h'.get? b = some o) : Fr h₀ L h' m := by
  obtain ⟨oL, es, ep, hL, r⟩ := F.ns
  have D := N (e, o) (by simp)
  refine ⟨⟨oL, es, ep, k _ _ (Ne.symm D.2.1) hL, r⟩, fun b x q => k _ _ (fun z => ?_) (F.keep b x q), F.above⟩
  have := D.2.2
  rw [← z, q] at this; cases this
theorem news_upd' {h h' : Heap} {o o' : Obj} (N : News h₀ L h ((e, o) :: rest)) (hne : ∀ p ∈ rest, p.1 ≠ e) (k : ∀ b o, b ≠ e → h.get? b = some o → h'.get? b = some o) (he : h'.get? e = some o') : News h₀ L h' ((e, o') :: rest) := by
  intro p hp
  rcases List.mem_cons.mp hp with rfl | q
  · exact ⟨he, (N (e, o) (by simp)).2⟩
  · have P := N p (List.mem_cons_of_mem _ q)
    exact ⟨k _ _ (hne p q) P.1, P.2⟩

theorem size_init (F : Fr h₀ L s.heap m) (N : News h₀ L s.heap ((e, excO 44 t0 none) :: rest)) (hne : ∀ p ∈ rest, p.1 ≠ e) (X : (KH w.params).In h₀) {Q : Value → Shared → Prop}
    (h : ∀ t h', Fr h₀ L h' m → News h₀ L h' ((e, excO 44 t none) :: (t, tupO [v]) :: rest) → (∀ p ∈ (t, tupO [v]) :: rest, p.1 ≠ e) → (∀ p ∈ rest, p.1 ≠ t) → Q .none { s with heap := h' }) :
    wpAny (model prog w) A (call (.builtin "Exception.__init__") [.ref e, v]) Q E s := (by exact use_of : Use _ (by
 first
 | (
  obtain ⟨nm, q, bs, sn, sub, ab, col, dd, k0, k1, k2, k3, k5, hC⟩ := size_cls (X.keeps F.keep)
  obtain ⟨hh, g, d, tk, os⟩ := s
  have he := (N (e, excO 44 t0 none) (by simp)).1
  refine exc_init_call (by decide +kernel) hC he ?_
  have N1 : News h₀ L (hh.push (tupO [v])) ((e, excO 44 t0 none) :: (hh.objs.size, tupO [v]) :: rest) := fun p hp => (N.push F (tupO [v])) p (by
    rcases List.mem_cons.mp hp with rfl | q
    · exact List.mem_cons_of_mem _ (List.mem_cons_self ..)
    · rcases List.mem_cons.mp q with rfl | q
      · exact List.mem_cons_self ..
      · exact List.mem_cons_of_mem _ (List.mem_cons_of_mem _ q))
  have hne' : ∀ p ∈ (hh.objs.size, tupO [v]) :: rest, p.1 ≠ e := by
    intro p hp
    rcases List.mem_cons.mp hp with rfl | q
    · exact Nat.ne_of_gt (Heap.lt_size he)
    · exact hne p q
  obtain ⟨U1, U2⟩ := news_upd (pre := []) (f := Obj.mapFields (·.setIfInBounds 0 (.ref hh.objs.size))) (o' := excO 44 hh.objs.size none) (F.push (tupO [v])) N1 (by simp) hne' rfl rfl
  exact h hh.objs.size _ U1 U2 hne' fun p hp => Nat.ne_of_lt (Heap.lt_size (N p (List.mem_cons_of_mem _ hp)).1))
 | fail))

theorem size_store (F : Fr h₀ L s.heap m) (N : News h₀ L s.heap ((e, excO 44 t0 none) :: rest)) (hne : ∀ p ∈ rest, p.1 ≠ e) (X : (KH w.params).In h₀) {Q : Unit → Shared → Prop}
    (h : ∀ dx h' tk, Fr h₀ L h' m → News h₀ L h' ((e, excO 44 t0 (some dx)) :: rest) → Q () { s with heap := h', toks := tk }) :
    wpAny (model prog w) A (setAttr (.ref e) "message" v) Q E s := (by exact use_of : Use _ (by
 first
 | (
  have X' := X.keeps F.keep
  obtain ⟨nm, q, bs, sn, sub, ab, col, dd, k0, k1, k2, k3, k5, hC⟩ := size_cls X'
  obtain ⟨hh, g, d, tk, os⟩ := s
  have he := (N (e, excO 44 t0 none) (by simp)).1
  refine exc_store hC size_pass (by decide +kernel) (looks_findIn X' (by k_is)) (looks_findIn X' (by k_is)) he fun h' tk' dx h1 h2 => ?_
  exact h dx h' tk' (fr_upd F N h2) (news_upd' N hne h2 h1))
 | fail))
end
end size
end
section
set_option maxHeartbeats 800000
theorem wdsL44 : True := by
  k_with "getMethod type:Exception" =>
    fail_if_success (k_extra "off L44")
    ((k_here; refine' method_type ?z1144F ?z1144X ?z1144m (by decide +kernel) ?z1144e ?z1144h ?_; (case z1144F => k_asm); (case z1144X => k_asm); (case z1144m => exact exc_meta); (case z1144e => k_dflt k_is); (case z1144h => k_handed)))
  k_with "call builtin:Exception.__init__" =>
    fail_if_success (k_extra "off L44")
    ((k_here; (refine' size_init ?z6371F ?z6371N ?z6371n ?z6371X ?_; (case z6371F => k_asm); (case z6371N => k_asm); (case z6371n => assumption); (case z6371X => k_asm); k_whole); intro t' h' F' N' ne' nt'; (try dsimp only)))
  k_with "setAttr ref" =>
    fail_if_success (k_extra "off L44")
    ((k_here; (with_reducible show wpAny _ _ (setAttr (Value.ref _) ("message" : Str) _) _ _ _); (refine' size_store ?z3836F ?z3836N ?z3836n ?z3836X ?_; (case z3836F => k_asm); (case z3836N => k_asm); (case z3836n => assumption); (case z3836X => k_asm); k_whole); intro dx' h' tk' F' N'; (try dsimp only)))
  trivial
theorem init28_in {w : World} {p : Program} {loose : List Str} {mean : ExcName → Option Value} {mg mb : Str → Option Value}
  (κ : Cx) (A₀ : Around) (base h₀ : Heap) (m : Str → Option Value) (s : Shared) (Q E : Value → Shared → Prop)
  (rest : Led) (e t0 : Addr) (msg : Str) (tk : Tok)
  (B : Below A₀ base κ.outer h₀) (F : Fr h₀ κ.L s.heap m) (X : (KH w.params).In h₀) (N : News h₀ κ.L s.heap ((e, excO 44 t0 none) :: rest))
  (T : Top p loose mean mg mb h₀) (hk : κ.cs.kind = .function) (hne : ∀ p ∈ rest, p.1 ≠ e)
  (hd : κ.dp + 8 < recursionLimit) (hu : κ.un + 64 < cLine)
  (ret : ∀ (t dx : Addr) (h' : Heap) (tk' : Nat), Fr h₀ κ.L h' m → News h₀ κ.L h' ((e, excO 44 t (some dx)) :: (t, tupO [.str msg tk]) :: rest) → (∀ p ∈ rest, p.1 ≠ t) → Q .none { s with heap := h', toks := tk' }):
  wpAny (model prg w) (T1 κ) (call (.ref 28) [.ref e, .str msg tk]) Q E s := (by exact use_of : Use _ (by
 first
 | (
  refine wpAny_call ?_
  k_dflt k_enter
  k_steps
  all_goals exact ret _ _ _ _ (by k_asm) (by k_asm) (by assumption))
 | fail))
theorem init28 {w : World} {p : Program} {loose : List Str} {mean : ExcName → Option Value} {mg mb : Str → Option Value}
  (dp un : Nat) (gd : Option (List Code)) (cn : Str) (cs : Scope) (a : Addr) (ccd : Value) (cl : List (Str × Addr)) (outer : List Env) (A₀ : Around) (base h₀ : Heap) (L : Addr) (m : Str → Option Value) (s : Shared) (Q E : Value → Shared → Prop)
  (rest : Led) (e t0 : Addr) (msg : Str) (tk : Tok)
  (B : Below A₀ base outer h₀) (F : Fr h₀ L s.heap m) (X : (KH w.params).In h₀) (N : News h₀ L s.heap ((e, excO 44 t0 none) :: rest))
  (T : Top p loose mean mg mb h₀) (hk : cs.kind = .function) (hne : ∀ p ∈ rest, p.1 ≠ e)
  (hd : dp + 8 < recursionLimit) (hu : un + 64 < cLine)
  (ret : ∀ (t dx : Addr) (h' : Heap) (tk' : Nat), Fr h₀ L h' m → News h₀ L h' ((e, excO 44 t (some dx)) :: (t, tupO [.str msg tk]) :: rest) → (∀ p ∈ rest, p.1 ≠ t) → Q .none { s with heap := h', toks := tk' }):
  wpAny (model prg w) (ktrTop dp un gd cn cs L a ccd cl outer) (call (.ref 28) [.ref e, .str msg tk]) Q E s :=
  init28_in ⟨dp, un, gd, cn, cs, L, a, ccd, cl, outer⟩ A₀ base h₀ m s Q E rest e t0 msg tk B F X N T hk hne hd hu ret
theorem wdoL44 : True := by
  k_with "off L44" => skip
  trivial
end
section
set_option maxHeartbeats 800000
section size
open PySem
/-- what the raise statement of a SizeError leaves to say -/
def SizeEnd (h₀ : Heap) (L : Addr) (m : Str → Option Value) (E : Value → Shared → Prop) (vs : List Value) (s₂ : Shared) : Prop :=
  ∃ msg tk led, vs = [.str msg tk] ∧ Fr h₀ L s₂.heap m ∧ News h₀ L s₂.heap led ∧
    ∀ (e t dx : Addr) (h' : Heap) (tk' : Nat), Fr h₀ L h' m → News h₀ L h' ((e, excO 44 t (some dx)) :: (t, tupO [.str msg tk]) :: led) → (∀ p ∈ led, p.1 ≠ e ∧ p.1 ≠ t) → E (.ref e) { s₂ with heap := h', toks := tk' }

theorem SizeEnd.intro {h₀ : Heap} {L : Addr} {m : Str → Option Value} {E : Value → Shared → Prop} {msg : Str} {tk : Tok} {s₂ : Shared} {led : Led} (F : Fr h₀ L s₂.heap m) (N : News h₀ L s₂.heap led)
    (h : ∀ (e t dx : Addr) (h' : Heap) (tk' : Nat), Fr h₀ L h' m → News h₀ L h' ((e, excO 44 t (some dx)) :: (t, tupO [.str msg tk]) :: led) → (∀ p ∈ led, p.1 ≠ e ∧ p.1 ≠ t) → E (.ref e) { s₂ with heap := h', toks := tk' }) : SizeEnd h₀ L m E [.str msg tk] s₂ :=
  ⟨msg, tk, led, rfl, F, N, h⟩

theorem size_make {w : World} {p : Program} {loose : List Str} {mean : ExcName → Option Value} {mg mb : Str → Option Value}
  (dp un : Nat) (gd : Option (List Code)) (cn : Str) (cs : Scope) (a : Addr) (ccd : Value) (cl : List (Str × Addr)) (outer : List Env) (A₀ : Around) (base h₀ : Heap) (L : Addr) (m : Str → Option Value) (s : Shared) (Q E : Value → Shared → Prop)
  (rest : Led) (msg : Str) (tk : Tok)
  (B : Below A₀ base outer h₀) (F : Fr h₀ L s.heap m) (X : (KH w.params).In h₀) (N : News h₀ L s.heap rest)
  (T : Top p loose mean mg mb h₀) (hk : cs.kind = .function)
  (hd : dp + 9 < recursionLimit) (hu : un + 80 < cLine)
  (ret : ∀ (e t t0 dx : Addr) (h' : Heap) (tk' : Nat), Fr h₀ L h' m → News h₀ L h' ((e, excO 44 t (some dx)) :: (t, tupO [.str msg tk]) :: (t0, tupO [.str msg tk]) :: rest) → (∀ p ∈ rest, p.1 ≠ e ∧ p.1 ≠ t) → Q (.ref e) { s with heap := h', toks := tk' }) :
  wpAny (model prg w) (ktrTop dp un gd cn cs L a ccd cl outer) (call (.ref 44) [.str msg tk]) Q E s := (by exact use_of : Use _ (by
 first
 | (
  have X' := X.keeps F.keep
  obtain ⟨nm, q, bs, sn, sub, ab, col, dd, k0, k1, k2, k3, k5, hC⟩ := size_cls X'
  obtain ⟨hh, g, d, tk0, os⟩ := s
  refine exc_call (by decide +kernel) (by decide +kernel) (by decide +kernel) hC (looks_findIn X' (by k_is)) (fun self => bind_fn X' self (by k_is)) ?_
  have hlt : ∀ p ∈ rest, p.1 < hh.objs.size := fun p hp => Heap.lt_size (N p hp).1
  have N2 := (N.push F (tupO [.str msg tk])).push (F.push _) (excO 44 hh.objs.size none)
  rw [Heap.size_push] at N2
  refine init28 _ _ gd cn cs a ccd cl outer A₀ base h₀ L m _ _ _ ((hh.objs.size, tupO [.str msg tk]) :: rest) (hh.objs.size + 1) hh.objs.size msg tk B ((F.push _).push _) X N2 T hk ?_ ?_ ?_ ?_
  · intro p hp
    rcases List.mem_cons.mp hp with rfl | q
    · exact Nat.ne_of_lt (Nat.lt_succ_self _)
    · exact Nat.ne_of_lt (Nat.lt_succ_of_lt (hlt p q))
  · show dp + 1 + 8 < recursionLimit
    omega
  · show un + (Code.builtin "type.__call__" ⟨[.ref 44, .str msg tk], []⟩).cUnits + 64 < cLine
    have : (Code.builtin "type.__call__" ⟨[.ref 44, .str msg tk], []⟩).cUnits = 1 := rfl
    omega
  · intro t dx h' tk' F' N' nt'
    exact ⟨rfl, ret _ _ _ _ _ _ F' N' fun p hp => ⟨Nat.ne_of_lt (Nat.lt_succ_of_lt (hlt p hp)), nt' p (List.mem_cons_of_mem _ hp)⟩⟩)
 | fail))
end size
end
section
set_option maxHeartbeats 800000
section size
open PySem
theorem star_bin {l r : PySem.Expr} {o : PySem.Operator} {p : Pos} {rest : List PySem.Expr} {env : Env} : starEach (.BinOp l o r p :: rest) env = (false, eval (.BinOp l o r p) env) :: starEach rest env := rfl
theorem mem_drop3 {α : Type} {x a b c : α} {l : List α} (h : x ∈ a :: b :: l) : x ∈ a :: b :: c :: l := by
  simp only [List.mem_cons] at h ⊢
  rcases h with h | h | h
  · exact .inl h
  · exact .inr (.inl h)
  · exact .inr (.inr (.inr h))
theorem size_raise {w : World} {A : Around} {p : Program} {loose : List Str} {mean : ExcName → Option Value} {mg mb : Str → Option Value}
  {dp un : Nat} {gd : Option (List Code)} {cn : Str} {cs : Scope} {a : Addr} {ccd : Value} {cl : List (Str × Addr)} {outer : List Env} {A₀ : Around} {base h₀ : Heap} {L : Addr} {m : Str → Option Value} {s : Shared} {Q : Flow → Shared → Prop} {E : Value → Shared → Prop}
  {e₀ : PySem.Expr} {rest : List PySem.Expr} {np cpos pos : Pos}
  (B : Below A₀ base outer h₀) (F : Fr h₀ L s.heap m) (X : (KH w.params).In h₀)
  (T : Top p loose mean mg mb h₀) (hd : dp + 9 < recursionLimit) (hu : un + 80 < cLine)
  (hA : A = ktrTop dp un gd cn cs L a ccd cl outer)
  (h : wpAny (model prg w) A (spliced (backTo cpos (starEach (e₀ :: rest) (envX cn cs L a ccd cl)))) (SizeEnd h₀ L m E) E s)
  (he : starEach (e₀ :: rest) (envX cn cs L a ccd cl) = (false, eval e₀ (envX cn cs L a ccd cl)) :: starEach rest (envX cn cs L a ccd cl) := by rfl)
  (hplain : (backTo cpos (starEach rest (envX cn cs L a ccd cl))).any (·.1) = false := by rfl)
  (hk : cs.kind = .function := by rfl) (hx : (envX cn cs L a ccd cl).kindOf "SizeError" = some .globalImplicit := by rfl) :
  wpAny (model prg w) A (exec (.Raise (some (.Call (.Name "SizeError" np) (e₀ :: rest) [] cpos)) none pos) (envX cn cs L a ccd cl)) Q E s := (by exact use_of : Use _ (by
 first
 | (
  subst hA
  rw [arm_exec_Raise]
  refine wpAny_bind (wpAny_standAt (exc_raise rfl ?_))
  refine wpAny_bind (wpAny_mono (wpAny_Call_ofName (Name_function_global hk hx (loadGlobal_global (env := envX cn cs L a ccd cl) (T.g.keeps F.keep) (mg_of (v := .ref 44) X T.g (by k_is)) ?_) (by decide))) (fun v s₃ h₃ => wpAny_bind (wpAny_standAt (wpAny_pure h₃))) fun _ _ x => x)
  unfold callWith
  rw [he] at h ⊢
  refine wpAny_bind (wpAny_holding (wpAny_mono (Q := fun (ar : Args) s₂ => ar.kw = [] ∧ SizeEnd h₀ L m E ar.pos s₂) (Calls.evalArgs_plain (wpAny_mono h (fun vs s₂ h₂ => ⟨rfl, h₂⟩) fun _ _ y => y)) (fun ar s₂ h₂ => wpAny_bind (wpAny_standAt ?_)) fun _ _ x => x))
  obtain ⟨apos, akw⟩ := ar
  obtain ⟨hkw, msg, tk, led, hpos, F₂, N₂, h₂⟩ := h₂
  obtain rfl : akw = [] := hkw
  obtain rfl : apos = _ := hpos
  have hpl : (backTo cpos ((false, eval e₀ (envX cn cs L a ccd cl)) :: starEach rest (envX cn cs L a ccd cl))).any (·.1) = false := by
    show (false || (backTo cpos (starEach rest (envX cn cs L a ccd cl))).any (·.1)) = false
    rw [hplain]; rfl
  obtain ⟨nm, q, bs, sn, sub, ab, col, dd, k0, k1, k2, k3, k5, hC⟩ := size_cls (X.keeps F₂.keep)
  obtain ⟨hp, g, d, tk', os⟩ := s₂
  simp only [hpl]
  refine wpAny_bind (wpAny_keeperOf_exc hC ?_)
  refine wpAny_bind (size_make dp un gd cn cs a ccd cl outer A₀ base h₀ L m _ _ _ led msg tk B F₂ X N₂ T hk hd hu fun e t t0 dx h' tk'' F' N' ne' => ?_)
  refine wpAny_bind (wpAny_holding (wpAny_point (wpAny_pure ?_)))
  obtain ⟨nm, q, bs, sn, sub, ab, col, dd, k0, k1, k2, k3, k5, hC'⟩ := size_cls (X.keeps F'.keep)
  refine ⟨e, t, some dx, _, _, _, _, _, _, _, _, _, _, _, _, _, _, _, _, _, _, rfl, ?_, hC', (N' (e, excO 44 t (some dx)) (List.mem_cons_self ..)).1, ?_⟩
  · decide +kernel
  · exact h₂ e t dx h' tk'' F' (fun p hp => N' p (mem_drop3 hp)) ne')
 | fail))
end size
end
section
set_option maxHeartbeats 800000
section size
open PySem
theorem kts_memX {env : Env} {L b : Addr} {outer : List Env} (hf : env.frame = some L) (hm : b ∈ (env :: outer).filterMap (·.frame)) : b = L ∨ b ∈ outer.filterMap (·.frame) := by
  obtain ⟨env', he, hf'⟩ := List.mem_filterMap.mp hm
  rcases List.mem_cons.mp he with rfl | he
  · exact .inl (Option.some.inj (hf.symm.trans hf')).symm
  · exact .inr (List.mem_filterMap.mpr ⟨env', he, hf'⟩)
section
variable {M : Model} {A : Around} {E : Value → Shared → Prop} {s' : Shared} {base g g₂ : Heap} {outer : List Env} {env : Env} {L e t C : Addr} {dx : Option Addr} {m : Str → Option Value} {Q : Unit → Shared → Prop} {news : List (Addr × Obj)} {vs : List Value}
theorem leave_size (K : Below A base outer g) (F : Fr g L s'.heap m) (N : News g L s'.heap ((e, excO C t dx) :: (t, tupO vs) :: news)) (hne : ∀ p ∈ news, p.1 ≠ e ∧ p.1 ≠ t)
    (hQ : ∀ h', RaisedS base g outer e (.ref C) t vs news h' → g.UpToSlots h' → Q () { s' with heap := h' }) (hf : env.frame = some L) (hk : env.scope.kind = .function) :
    wpAny M (A.deeper env) (leaving env (.ref e)) Q E s' := (by exact use_of : Use _ (by
 first
 | (
  have K' := pushX K F hf hk
  obtain ⟨as, has⟩ : ∃ as, as = (env :: outer).filterMap (·.frame) ++ [e, t] := ⟨_, rfl⟩
  have hin : ∀ env' ∈ (env :: outer), ∀ b, env'.frame = some b → b ∈ as := fun env' he b hb => by
    rw [has]; exact List.mem_append_left _ (List.mem_filterMap.mpr ⟨env', he, hb⟩)
  have Ne := N (e, excO C t dx) (List.mem_cons_self ..)
  have Nt := N (t, tupO vs) (List.mem_cons_of_mem _ (List.mem_cons_self ..))
  have fr0 : ∀ b ∈ as, base.get? b = none := fun b hb => by
    rw [has] at hb
    rcases List.mem_append.mp hb with q | q
    · exact (K'.frames.mem q).1
    · rcases List.mem_cons.mp q with rfl | q
      · exact fresh_of_stays K.stays Ne.2.2
      · obtain rfl := List.mem_singleton.mp q
        exact fresh_of_stays K.stays Nt.2.2
  have st : base.StaysIn (hideAll s'.heap as) := fun b o q => hideAll_get _ (K'.stays b o q) fun hm => by
    rw [fr0 b hm] at q; cases q
  have sg : ∀ b o, g.get? b = some o → b ∉ outer.filterMap (·.frame) → (hideAll s'.heap as).get? b = some o := fun b o q nm => hideAll_get _ (F.keep b o q) fun hm => by
    rw [has] at hm
    rcases List.mem_append.mp hm with z | z
    · rcases kts_memX hf z with z | z
      · rw [z, kts_self F] at q; cases q
      · exact nm z
    · rcases List.mem_cons.mp z with z | z
      · rw [z, Ne.2.2] at q; cases q
      · rw [List.mem_singleton.mp z, Nt.2.2] at q; cases q
  have hl : ∀ q ∈ news, (hideAll s'.heap as).get? q.1 = some q.2 ∧ g.get? q.1 = none ∧ base.get? q.1 = none := fun q hq => by
    have Nq := N q (List.mem_cons_of_mem _ (List.mem_cons_of_mem _ hq))
    refine ⟨hideAll_get _ Nq.1 fun hm => ?_, Nq.2.2, fresh_of_stays K.stays Nq.2.2⟩
    rw [has] at hm
    rcases List.mem_append.mp hm with hm | hm
    · rcases kts_memX hf hm with z | z
      · exact Nq.2.1 z
      · obtain ⟨o, ho, _⟩ := (K.frames.mem z).2
        rw [Nq.2.2] at ho; cases ho
    · rcases List.mem_cons.mp hm with z | z
      · exact (hne q hq).1 z
      · exact (hne q hq).2 (List.mem_singleton.mp z)
  have he0 : (hideAll s'.heap as).get? e = none := hideAll_none _ (by rw [has]; simp)
  have ht0 : (hideAll s'.heap as).get? t = none := hideAll_none _ (by rw [has]; simp)
  refine wpAny_leaving_firstW (a0 := .ref t) K'.stack (funFrames_hide K'.frames hin) hf Ne.1 (fun b o q => of_hideAll _ q) he0 rfl rfl rfl fun h' hL => ?_
  obtain ⟨k1, ⟨_, _, k2⟩, k3, k4⟩ := hL
  exact hQ h' ⟨⟨_, st, sg, hl, ⟨k1, he0, k2, k3⟩, ht0⟩, Heap.TupAt.of_slots ⟨_, _, Nt.1, rfl, rfl⟩ k4⟩ ((Heap.UpToSlots.of_keeps F.keep).trans k4))
 | fail))

theorem leave_on {cls : Value} (K : Below A base outer g) (F : Fr g L g₂ m) (R : RaisedS base g₂ (env :: outer) e cls t vs news s'.heap) (hsm : g₂.UpToSlots s'.heap)
    (hQ : ∀ h', RaisedS base g outer e cls t vs news h' → g.UpToSlots h' → Q () { s' with heap := h' }) (hf : env.frame = some L) :
    wpAny M (A.deeper env) (leaving env (.ref e)) Q E s' := by
  obtain ⟨⟨B, hB, hBG, hl, hfl, hnew⟩, htup⟩ := R
  exact wpAny_leaves_onW (Around.frames_deeper K.stack) hf hfl fun h' x1 x2 =>
    hQ h' ⟨⟨B, hB, fun b o q nm => hBG b o (F.keep b o q) (fun hm => by
      rcases kts_memX hf hm with z | z
      · rw [z, kts_self F] at q
        cases q
      · exact nm z), fun q hq => ⟨(hl q hq).1, kts_none F.keep (hl q hq).2.1, (hl q hq).2.2⟩, x1, hnew⟩, htup.of_slots x2⟩ ((Heap.UpToSlots.of_keeps F.keep).trans (hsm.trans x2))
theorem raised_sub {cls : Value} {G : Heap} {l : List Env} {h : Heap} {news' : List (Addr × Obj)} (R : RaisedS base G l e cls t vs news h) (hs : ∀ p ∈ news', p ∈ news) : RaisedS base G l e cls t vs news' h := by
  obtain ⟨⟨B, hB, hg, hl, r⟩, htup⟩ := R
  exact ⟨⟨B, hB, hg, fun q hq => hl q (hs q hq), r⟩, htup⟩
end
end size
end
section
set_option maxHeartbeats 800000
section ifexp
open PySem
def IfStop (P : Prop) : Prop := P
theorem IfStop.mk {P : Prop} (h : IfStop P) : P := h
def JoinSt (h₀ : Heap) (L : Addr) (m : Str → Option Value) (led : Led) (s s₁ : Shared) : Prop := ∃ h' tk, s₁ = { s with heap := h', toks := tk } ∧ Fr h₀ L h' m ∧ News h₀ L h' led
theorem JoinSt.intro {h₀ : Heap} {L : Addr} {m : Str → Option Value} {led : Led} {s : Shared} {h' : Heap} {tk : Nat} (F : Fr h₀ L h' m) (N : News h₀ L h' led) : JoinSt h₀ L m led s { s with heap := h', toks := tk } := ⟨h', tk, rfl, F, N⟩
theorem ifjoin {M : Model} {A : Around} {E : Value → Shared → Prop} {s : Shared} {env : Env} {test body orelse : PySem.Expr} {pos : Pos} {Q : Value → Shared → Prop} {h₀ : Heap} {L : Addr} {m : Str → Option Value} {led : Led} (f : Bool) (b : Int) (_F : Fr h₀ L s.heap m) (_N : News h₀ L s.heap led)
    (h1 : wpAny M A (isTrue test env (eval test env)) (fun r s₁ => r = f ∧ JoinSt h₀ L m led s s₁) E s)
    (h2 : ∀ h' tk, Fr h₀ L h' m → News h₀ L h' led → wpAny M A (eval body env) (fun v s₂ => (∃ t, v = .int b t) ∧ JoinSt h₀ L m led s s₂) E { s with heap := h', toks := tk })
    (h3 : ∀ h' tk, Fr h₀ L h' m → News h₀ L h' led → wpAny M A (eval orelse env) (fun v s₂ => (∃ t, v = .int 0 t) ∧ JoinSt h₀ L m led s s₂) E { s with heap := h', toks := tk })
    (h : ∀ t h' tk, Fr h₀ L h' m → News h₀ L h' led → Q (.int (bitIf f b) t) { s with heap := h', toks := tk }) :
    wpAny M A (eval (.IfExp test body orelse pos) env) Q E s := by
  refine wpAny_IfExp (wpAny_mono h1 (fun r s₁ z => ?_) fun _ _ x => x)
  obtain ⟨rfl, h', tk, rfl, F, N⟩ := z
  cases r with
  | true =>
    refine wpAny_mono (h2 h' tk F N) (fun v s₂ z => ?_) fun _ _ x => x
    obtain ⟨⟨t, rfl⟩, h', tk, rfl, F, N⟩ := z
    exact h t _ _ F N
  | false =>
    refine wpAny_mono (h3 h' tk F N) (fun v s₂ z => ?_) fun _ _ x => x
    obtain ⟨⟨t, rfl⟩, h', tk, rfl, F, N⟩ := z
    exact h t _ _ F N
end ifexp
end
section
set_option maxHeartbeats 800000
section intsec
open PySem PyProof.Rows.LCg
section
variable {prog : Program} {w : World} {A : Around} {s : Shared} {h₀ : Heap} {L : Addr} {m : Str → Option Value} {env : Env} {elt : PySem.Expr} {ifs : List PySem.Expr} {scope : Scope} {cl : List (Str × Addr)} {S : Led → Prop} {Fin : List Value → Led → Prop} {news : Led}
theorem McL.byInts {x : Str} {f : Int → Int}
    (step : ∀ (j : Int) (r : List Asg) (ys : List Value), 0 ≤ j → j ≤ 5 → (∀ t, McL prog w A h₀ L m env elt ifs scope cl s S Fin r (ys ++ [.int (f j) t]) news) → McL prog w A h₀ L m env elt ifs scope cl s S Fin ((fun m => ∃ t, m x = some (.int j t)) :: r) ys news) :
    ∀ (js : List Int) (ys : List Value), (∀ j ∈ js, 0 ≤ j ∧ j ≤ 5) → (∀ zs, IntsAre zs (js.map f) → Fin (ys ++ zs) news) → McL prog w A h₀ L m env elt ifs scope cl s S Fin (js.map fun j m => ∃ t, m x = some (.int j t)) ys news
  | [], ys, _, fin => by
    have := fin [] .nil
    rwa [List.append_nil] at this
  | j :: js, ys, hj, fin => step j _ ys (hj j (.head _)).1 (hj j (.head _)).2 fun t => McL.byInts step js _ (fun i hi => hj i (.tail _ hi)) fun zs hz => by
    have := fin (.int (f j) t :: zs) (.cons _ _ hz)
    rwa [List.append_cons] at this
theorem shr_any {a n : Int} {t u : Tok} {Q E : Value → Shared → Prop} (hn : 0 ≤ n) (h : ∀ d, d = a / 2 ^ n.toNat → Q (.int d s.toks) { s with toks := s.toks + 1 }) :
    wpAny (model prog w) A (binaryOp .RShift (.int a t) (.int n u)) Q E s := shr_is hn rfl h
theorem pow256_in {j : Int} (h0 : 0 ≤ j) (h5 : j ≤ 5) : 0 < (256 : Int) ^ j.toNat ∧ (256 : Int) ^ j.toNat ≤ 1099511627776 := by
  have := cases6 h0 h5
  rcases this with rfl | rfl | rfl | rfl | rfl | rfl <;> decide
theorem pow_any {n : Int} {t u : Tok} {Q E : Value → Shared → Prop} (hn : 0 ≤ n) (hn2 : n ≤ 5) (h : ∀ d, d = 256 ^ n.toNat → 0 < d → d ≤ 1099511627776 → Q (.int d s.toks) { s with toks := s.toks + 1 }) :
    wpAny (model prog w) A (binaryOp .Pow (.int 256 t) (.int n u)) Q E s :=
  pow_int_small hn (Int.le_trans hn2 (by decide)) (by decide) (h _ rfl (pow256_in hn hn2).1 (pow256_in hn hn2).2)
end
theorem ints_nil {ys : List Value} {P : List Value → Prop} (h : IntsAre ys []) (k : P []) : P ys := by cases h; exact k
theorem ints_cons {ys : List Value} {P : List Value → Prop} {v : Int} {vs : List Int} (h : IntsAre ys (v :: vs)) (e : ∀ d, d = v → 0 ≤ d ∧ d < 256) (k : ∀ d t zs, d = v → 0 ≤ d ∧ d < 256 → IntsAre zs vs → P (.int d t :: zs)) : P ys := by
  cases h with
  | cons _ t r => exact k v t _ rfl (e v rfl) r
theorem mod_in {a v : Int} (e : v = a % 256) : 0 ≤ v ∧ v < 256 := by subst e; exact ⟨Int.emod_nonneg _ (by decide), Int.emod_lt_of_pos _ (by decide)⟩
end intsec
theorem bis1 {a0 : Int} (h : 0 ≤ a0 ∧ a0 < 256) : KBw.bInts #[a0.toNat.toUInt8] = [a0] := by
  show [((a0.toNat.toUInt8.toNat : Nat) : Int)] = _
  obtain ⟨l0, u0⟩ := h
  rw [byte_back (n := a0) l0 u0]
theorem bis2 {a0 a1 : Int} (h : 0 ≤ a0 ∧ a0 < 256 ∧ 0 ≤ a1 ∧ a1 < 256) : KBw.bInts #[a0.toNat.toUInt8, a1.toNat.toUInt8] = [a0, a1] := by
  show [((a0.toNat.toUInt8.toNat : Nat) : Int), ((a1.toNat.toUInt8.toNat : Nat) : Int)] = _
  obtain ⟨l0, u0, l1, u1⟩ := h
  rw [byte_back (n := a0) l0 u0, byte_back (n := a1) l1 u1]
theorem bis3 {a0 a1 a2 : Int} (h : 0 ≤ a0 ∧ a0 < 256 ∧ 0 ≤ a1 ∧ a1 < 256 ∧ 0 ≤ a2 ∧ a2 < 256) : KBw.bInts #[a0.toNat.toUInt8, a1.toNat.toUInt8, a2.toNat.toUInt8] = [a0, a1, a2] := by
  show [((a0.toNat.toUInt8.toNat : Nat) : Int), ((a1.toNat.toUInt8.toNat : Nat) : Int), ((a2.toNat.toUInt8.toNat : Nat) : Int)] = _
  obtain ⟨l0, u0, l1, u1, l2, u2⟩ := h
  rw [byte_back (n := a0) l0 u0, byte_back (n := a1) l1 u1, byte_back (n := a2) l2 u2]
theorem bis4 {a0 a1 a2 a3 : Int} (h : 0 ≤ a0 ∧ a0 < 256 ∧ 0 ≤ a1 ∧ a1 < 256 ∧ 0 ≤ a2 ∧ a2 < 256 ∧ 0 ≤ a3 ∧ a3 < 256) : KBw.bInts #[a0.toNat.toUInt8, a1.toNat.toUInt8, a2.toNat.toUInt8, a3.toNat.toUInt8] = [a0, a1, a2, a3] := by
  show [((a0.toNat.toUInt8.toNat : Nat) : Int), ((a1.toNat.toUInt8.toNat : Nat) : Int), ((a2.toNat.toUInt8.toNat : Nat) : Int), ((a3.toNat.toUInt8.toNat : Nat) : Int)] = _
  obtain ⟨l0, u0, l1, u1, l2, u2, l3, u3⟩ := h
  rw [byte_back (n := a0) l0 u0, byte_back (n := a1) l1 u1, byte_back (n := a2) l2 u2, byte_back (n := a3) l3 u3]
theorem bis6 {a0 a1 a2 a3 a4 a5 : Int} (h : 0 ≤ a0 ∧ a0 < 256 ∧ 0 ≤ a1 ∧ a1 < 256 ∧ 0 ≤ a2 ∧ a2 < 256 ∧ 0 ≤ a3 ∧ a3 < 256 ∧ 0 ≤ a4 ∧ a4 < 256 ∧ 0 ≤ a5 ∧ a5 < 256) : KBw.bInts #[a0.toNat.toUInt8, a1.toNat.toUInt8, a2.toNat.toUInt8, a3.toNat.toUInt8, a4.toNat.toUInt8, a5.toNat.toUInt8] = [a0, a1, a2, a3, a4, a5] := by
  show [((a0.toNat.toUInt8.toNat : Nat) : Int), ((a1.toNat.toUInt8.toNat : Nat) : Int), ((a2.toNat.toUInt8.toNat : Nat) : Int), ((a3.toNat.toUInt8.toNat : Nat) : Int), ((a4.toNat.toUInt8.toNat : Nat) : Int), ((a5.toNat.toUInt8.toNat : Nat) : Int)] = _
  obtain ⟨l0, u0, l1, u1, l2, u2, l3, u3, l4, u4, l5, u5⟩ := h
  rw [byte_back (n := a0) l0 u0, byte_back (n := a1) l1 u1, byte_back (n := a2) l2 u2, byte_back (n := a3) l3 u3, byte_back (n := a4) l4 u4, byte_back (n := a5) l5 u5]
end
section
set_option maxHeartbeats 2000000
theorem wdsL31 : True := by
  k_with "getMethod type:Exception" =>
    fail_if_success (k_extra "off L31")
    ((k_here; refine' method_type ?z1144F ?z1144X ?z1144m (by decide +kernel) ?z1144e ?z1144h ?_; (case z1144F => k_asm); (case z1144X => k_asm); (case z1144m => exact exc_meta); (case z1144e => k_dflt k_is); (case z1144h => k_handed)))
  k_with "call builtin:Exception.__init__" =>
    fail_if_success (k_extra "off L31")
    ((k_here; (refine' size_init ?z6371F ?z6371N ?z6371n ?z6371X ?_; (case z6371F => k_asm); (case z6371N => k_asm); (case z6371n => assumption); (case z6371X => k_asm); k_whole); intro t' h' F' N' ne' nt'; (try dsimp only)))
  k_with "setAttr ref" =>
    fail_if_success (k_extra "off L31")
    ((k_here; (with_reducible show wpAny _ _ (setAttr (Value.ref _) ("message" : Str) _) _ _ _); (refine' size_store ?z3836F ?z3836N ?z3836n ?z3836X ?_; (case z3836F => k_asm); (case z3836N => k_asm); (case z3836n => assumption); (case z3836X => k_asm); k_whole); intro dx' h' tk' F' N'; (try dsimp only)))
  k_with "exec Raise some none" =>
    fail_if_success (k_extra "off L31")
    ((k_here; (with_reducible show wpAny _ _ (exec (Stmt.Raise (some (Expr.Call (Expr.Name ("SizeError" : Str) _) (_ :: _) [] _)) none _) _) _ _ _); k_dflt (refine' size_raise ?z1466B ?z1466F ?z1466X ?z1466T ?z1466hd ?z1466hu ?z1466hA ?_ ?z1466a ?z1466b ?z1466c ?z1466d; (case z1466hA => rfl); (case z1466B => assumption); (case z1466F => k_asm); (case z1466X => k_asm); (case z1466T => k_asm); (case z1466hd => ktr_room); (case z1466hu => ktr_room); (case z1466a => first | with_reducible exact star_bin | rfl); (case z1466b => rfl); (case z1466c => rfl); (case z1466d => rfl); k_whole)))
  k_with "SizeEnd" =>
    fail_if_success (k_extra "off L31")
    ((k_here; (refine' SizeEnd.intro ?z358F ?z358N ?_; (case z358F => k_asm); (case z358N => k_asm)); intro e' t' dx' h' tk' F' N' ne'; (try dsimp only)))
  k_with "leaving ref" =>
    fail_if_success (k_extra "off L31")
    ((k_here; first
      | (refine' leave_on ?z8181K ?z8181F ?z8181R ?z8181U ?_ ?z8181f; (case z8181R => assumption); (case z8181K => assumption); (case z8181F => assumption); (case z8181U => assumption); (case z8181f => rfl); k_whole; intro h' R' U'; (try dsimp only at R' U' ⊢))
      | (refine' leave_size ?z8181K ?z8181F ?z8181N ?z8181n ?_ ?z8181f ?z8181h; (case z8181K => assumption); (case z8181F => k_asm); (case z8181N => k_asm); (case z8181n => assumption); (case z8181f => rfl); (case z8181h => first | rfl | assumption); k_whole; intro h' R' U'; (try dsimp only at R' U' ⊢))))
  k_with "compareOp NotIn str ref" =>
    fail_if_success (k_extra "off L31")
    ((k_here; (with_reducible show wpAny _ _ (compareOp CmpOp.NotIn (Value.str _ _) (Value.ref 73)) _ _ _); (refine' role_notin ?z9558X ?_; (case z9558X => k_in); k_whole)))
  k_with "McL" =>
    fail_if_success (k_extra "off L31")
    (((with_reducible show McL _ _ _ _ _ _ _ _ _ _ _ _ _ _ _ [] _); refine IfStop.mk ?_))
  k_with "binaryOp RShift int int" =>
    fail_if_success (k_extra "off L31")
    ((k_here; (refine' shr_any ?z9108k1 ?_; (case z9108k1 => omega); k_whole); intro d' hd1; (try dsimp only)))
  k_with "binaryOp Pow int int" =>
    fail_if_success (k_extra "off L31")
    ((k_here; (refine' pow_any ?z3536k1 ?z3536k2 ?_; (case z3536k1 => omega); (case z3536k2 => omega); k_whole); intro d' hd1 hd2 hd3; (try dsimp only)))
  trivial
theorem oct1_in {w : World} {p : Program} {loose : List Str} {mean : ExcName → Option Value} {mg mb : Str → Option Value}
  (κ : Cx) (A₀ : Around) (base h₀ : Heap) (m : Str → Option Value) (s : Shared) (Q E : Value → Shared → Prop)
  (led : Led) (k : Int) (tk t2 : Tok)
  (B : Below A₀ base κ.outer h₀) (F : Fr h₀ κ.L s.heap m) (X : (KH w.params).In h₀) (N : News h₀ κ.L s.heap (led))
  (T : Top p loose mean mg mb h₀) (hk : κ.cs.kind = .function) 
  (hd : κ.dp + 20 < recursionLimit) (hu : κ.un + 200 < cLine)
  (ret : 0 ≤ k → k < 256 → ∀ (b : Array UInt8) (t : Tok) (h' : Heap) (tk' : Nat), KBw.bInts b = [k % 256] → Fr h₀ κ.L h' m → News h₀ κ.L h' led → Q (.bytes b t) { s with heap := h', toks := tk' })
  (err : ¬(0 ≤ k ∧ k < 256) → ∀ (e t : Addr) (vs : List Value) (g₂ h' : Heap) (tk' : Nat), Fr h₀ κ.L g₂ m → g₂.UpToSlots h' → RaisedS base g₂ (envX κ.cn κ.cs κ.L κ.a κ.ccd κ.cl :: κ.outer) e (.ref 44) t vs led h' → E (.ref e) { s with heap := h', toks := tk' }):
  wpAny (model prg w) (T1 κ) (call (.ref (k_addr% "number_octets")) [.int k tk, .int 1 t2]) Q E s := (by exact use_of : Use _ (by
 first
 | (
  refine wpAny_call ?_
  k_dflt k_enter
  k_steps
  all_goals first
    | (exact err (by omega) _ _ _ _ _ _ (by assumption) (by assumption) (raised_sub (by assumption) (by intro p9 hp9; repeat (first | exact hp9 | apply List.Mem.tail))))
    | skip
  unfold IfStop
  refine McL.byInts (f := fun j => k / 2 ^ (8 * j).toNat % 256) ?_ [0] [] (by decide) ?_
  · intro j r ys h0 h5 K9
    k_steps
    subst_vars
    exact K9 _
  intro zs hz
  simp only [List.nil_append]
  refine ints_cons (P := fun zs => PyProof.Rows.LCg.FinE _ _ _ _ _ (zs) _) hz (fun d e => mod_in e) (fun d0 t0 z0 e0 b0 hz0 => ?_)
  clear hz
  refine ints_nil (P := fun zs => PyProof.Rows.LCg.FinE _ _ _ _ _ (.int d0 t0 :: zs) _) hz0 ?_
  clear hz0
  (try dsimp only)
  k_steps
  all_goals (exact ret (by omega) (by omega) _ _ _ _ (by refine (bis1 ⟨b0.1, b0.2⟩).trans ?_; rw [e0]; (try simp only [Int.reduceMul, Int.reduceToNat, Int.reducePow, Int.ediv_one]); (try rfl)) (by k_asm) (by refine cb_drop (by assumption) ?_; intro p9 hp9; repeat (first | exact hp9 | apply List.Mem.tail))))
 | fail))

theorem oct1 {w : World} {p : Program} {loose : List Str} {mean : ExcName → Option Value} {mg mb : Str → Option Value}
  (dp un : Nat) (gd : Option (List Code)) (cn : Str) (cs : Scope) (a : Addr) (ccd : Value) (cl : List (Str × Addr)) (outer : List Env) (A₀ : Around) (base h₀ : Heap) (L : Addr) (m : Str → Option Value) (s : Shared) (Q E : Value → Shared → Prop)
  (led : Led) (k : Int) (tk t2 : Tok)
  (B : Below A₀ base outer h₀) (F : Fr h₀ L s.heap m) (X : (KH w.params).In h₀) (N : News h₀ L s.heap (led))
  (T : Top p loose mean mg mb h₀) (hk : cs.kind = .function) 
  (hd : dp + 20 < recursionLimit) (hu : un + 200 < cLine)
  (ret : 0 ≤ k → k < 256 → ∀ (b : Array UInt8) (t : Tok) (h' : Heap) (tk' : Nat), KBw.bInts b = [k % 256] → Fr h₀ L h' m → News h₀ L h' led → Q (.bytes b t) { s with heap := h', toks := tk' })
  (err : ¬(0 ≤ k ∧ k < 256) → ∀ (e t : Addr) (vs : List Value) (g₂ h' : Heap) (tk' : Nat), Fr h₀ L g₂ m → g₂.UpToSlots h' → RaisedS base g₂ (envX cn cs L a ccd cl :: outer) e (.ref 44) t vs led h' → E (.ref e) { s with heap := h', toks := tk' }):
  wpAny (model prg w) (ktrTop dp un gd cn cs L a ccd cl outer) (call (.ref (k_addr% "number_octets")) [.int k tk, .int 1 t2]) Q E s :=
  oct1_in ⟨dp, un, gd, cn, cs, L, a, ccd, cl, outer⟩ A₀ base h₀ m s Q E led k tk t2 B F X N T hk hd hu ret err
theorem oct2_in {w : World} {p : Program} {loose : List Str} {mean : ExcName → Option Value} {mg mb : Str → Option Value}
  (κ : Cx) (A₀ : Around) (base h₀ : Heap) (m : Str → Option Value) (s : Shared) (Q E : Value → Shared → Prop)
  (led : Led) (k : Int) (tk t2 : Tok)
  (B : Below A₀ base κ.outer h₀) (F : Fr h₀ κ.L s.heap m) (X : (KH w.params).In h₀) (N : News h₀ κ.L s.heap (led))
  (T : Top p loose mean mg mb h₀) (hk : κ.cs.kind = .function) 
  (hd : κ.dp + 20 < recursionLimit) (hu : κ.un + 200 < cLine)
  (ret : 0 ≤ k → k < 65536 → ∀ (b : Array UInt8) (t : Tok) (h' : Heap) (tk' : Nat), KBw.bInts b = [k / 256 % 256, k % 256] → Fr h₀ κ.L h' m → News h₀ κ.L h' led → Q (.bytes b t) { s with heap := h', toks := tk' })
  (err : ¬(0 ≤ k ∧ k < 65536) → ∀ (e t : Addr) (vs : List Value) (g₂ h' : Heap) (tk' : Nat), Fr h₀ κ.L g₂ m → g₂.UpToSlots h' → RaisedS base g₂ (envX κ.cn κ.cs κ.L κ.a κ.ccd κ.cl :: κ.outer) e (.ref 44) t vs led h' → E (.ref e) { s with heap := h', toks := tk' }):
  wpAny (model prg w) (T1 κ) (call (.ref (k_addr% "number_octets")) [.int k tk, .int 2 t2]) Q E s := (by exact use_of : Use _ (by
 first
 | (
  refine wpAny_call ?_
  k_dflt k_enter
  k_steps
  all_goals first
    | (exact err (by omega) _ _ _ _ _ _ (by assumption) (by assumption) (raised_sub (by assumption) (by intro p9 hp9; repeat (first | exact hp9 | apply List.Mem.tail))))
    | skip
  unfold IfStop
  refine McL.byInts (f := fun j => k / 2 ^ (8 * j).toNat % 256) ?_ [1, 0] [] (by decide) ?_
  · intro j r ys h0 h5 K9
    k_steps
    subst_vars
    exact K9 _
  intro zs hz
  simp only [List.nil_append]
  refine ints_cons (P := fun zs => PyProof.Rows.LCg.FinE _ _ _ _ _ (zs) _) hz (fun d e => mod_in e) (fun d1 t1 z1 e1 b1 hz1 => ?_)
  clear hz
  refine ints_cons (P := fun zs => PyProof.Rows.LCg.FinE _ _ _ _ _ (.int d1 t1 :: zs) _) hz1 (fun d e => mod_in e) (fun d0 t0 z0 e0 b0 hz0 => ?_)
  clear hz1
  refine ints_nil (P := fun zs => PyProof.Rows.LCg.FinE _ _ _ _ _ (.int d1 t1 :: .int d0 t0 :: zs) _) hz0 ?_
  clear hz0
  (try dsimp only)
  k_steps
  all_goals (exact ret (by omega) (by omega) _ _ _ _ (by refine (bis2 ⟨b1.1, b1.2, b0.1, b0.2⟩).trans ?_; rw [e1, e0]; (try simp only [Int.reduceMul, Int.reduceToNat, Int.reducePow, Int.ediv_one]); (try rfl)) (by k_asm) (by refine cb_drop (by assumption) ?_; intro p9 hp9; repeat (first | exact hp9 | apply List.Mem.tail))))
 | fail))

theorem oct2 {w : World} {p : Program} {loose : List Str} {mean : ExcName → Option Value} {mg mb : Str → Option Value}
  (dp un : Nat) (gd : Option (List Code)) (cn : Str) (cs : Scope) (a : Addr) (ccd : Value) (cl : List (Str × Addr)) (outer : List Env) (A₀ : Around) (base h₀ : Heap) (L : Addr) (m : Str → Option Value) (s : Shared) (Q E : Value → Shared → Prop)
  (led : Led) (k : Int) (tk t2 : Tok)
  (B : Below A₀ base outer h₀) (F : Fr h₀ L s.heap m) (X : (KH w.params).In h₀) (N : News h₀ L s.heap (led))
  (T : Top p loose mean mg mb h₀) (hk : cs.kind = .function) 
  (hd : dp + 20 < recursionLimit) (hu : un + 200 < cLine)
  (ret : 0 ≤ k → k < 65536 → ∀ (b : Array UInt8) (t : Tok) (h' : Heap) (tk' : Nat), KBw.bInts b = [k / 256 % 256, k % 256] → Fr h₀ L h' m → News h₀ L h' led → Q (.bytes b t) { s with heap := h', toks := tk' })
  (err : ¬(0 ≤ k ∧ k < 65536) → ∀ (e t : Addr) (vs : List Value) (g₂ h' : Heap) (tk' : Nat), Fr h₀ L g₂ m → g₂.UpToSlots h' → RaisedS base g₂ (envX cn cs L a ccd cl :: outer) e (.ref 44) t vs led h' → E (.ref e) { s with heap := h', toks := tk' }):
  wpAny (model prg w) (ktrTop dp un gd cn cs L a ccd cl outer) (call (.ref (k_addr% "number_octets")) [.int k tk, .int 2 t2]) Q E s :=
  oct2_in ⟨dp, un, gd, cn, cs, L, a, ccd, cl, outer⟩ A₀ base h₀ m s Q E led k tk t2 B F X N T hk hd hu ret err
theorem big2_in {w : World} {p : Program} {loose : List Str} {mean : ExcName → Option Value} {mg mb : Str → Option Value}
  (κ : Cx) (A₀ : Around) (base h₀ : Heap) (m : Str → Option Value) (s : Shared) (Q E : Value → Shared → Prop)
  (rest : Led) (k : Int) (tk t2 : Tok)
  (B : Below A₀ base κ.outer h₀) (F : Fr h₀ κ.L s.heap m) (X : (KH w.params).In h₀) (N : News h₀ κ.L s.heap (rest))
  (T : Top p loose mean mg mb h₀) (hk : κ.cs.kind = .function) (hk0 : 0 ≤ k) (hk1 : k < 65536)
  (hd : κ.dp + 8 < recursionLimit) (hu : κ.un + 64 < cLine)
  (ret : ∀ (b : Array UInt8) (t : Tok) (h' : Heap) (tk' : Nat), KBw.bInts b = [k / 256 % 256, k % 256] → Fr h₀ κ.L h' m → News h₀ κ.L h' rest → Q (.bytes b t) { s with heap := h', toks := tk' }):
  wpAny (model prg w) (T1 κ) (call (.ref (k_addr% "_law_big")) [.int k tk, .int 2 t2]) Q E s := (by exact use_of : Use _ (by
 first
 | (
  refine wpAny_call ?_
  k_dflt k_enter
  k_steps
  unfold IfStop
  refine McL.byInts (f := fun j => k / 256 ^ j.toNat % 256) ?_ [1, 0] [] (by decide) ?_
  · intro j r ys h0 h5 K9
    k_steps
    subst_vars
    exact K9 _
  intro zs hz
  simp only [List.nil_append]
  refine ints_cons (P := fun zs => PyProof.Rows.LCg.FinE _ _ _ _ _ (zs) _) hz (fun d e => mod_in e) (fun d1 t1 z1 e1 b1 hz1 => ?_)
  clear hz
  refine ints_cons (P := fun zs => PyProof.Rows.LCg.FinE _ _ _ _ _ (.int d1 t1 :: zs) _) hz1 (fun d e => mod_in e) (fun d0 t0 z0 e0 b0 hz0 => ?_)
  clear hz1
  refine ints_nil (P := fun zs => PyProof.Rows.LCg.FinE _ _ _ _ _ (.int d1 t1 :: .int d0 t0 :: zs) _) hz0 ?_
  clear hz0
  (try dsimp only)
  k_steps
  all_goals (exact ret _ _ _ _ (by refine (bis2 ⟨b1.1, b1.2, b0.1, b0.2⟩).trans ?_; rw [e1, e0]; (try simp only [Int.reduceMul, Int.reduceToNat, Int.reducePow, Int.ediv_one]); (try rfl)) (by k_asm) (by refine cb_drop (by assumption) ?_; intro p9 hp9; repeat (first | exact hp9 | apply List.Mem.tail))))
 | fail))

theorem big2 {w : World} {p : Program} {loose : List Str} {mean : ExcName → Option Value} {mg mb : Str → Option Value}
  (dp un : Nat) (gd : Option (List Code)) (cn : Str) (cs : Scope) (a : Addr) (ccd : Value) (cl : List (Str × Addr)) (outer : List Env) (A₀ : Around) (base h₀ : Heap) (L : Addr) (m : Str → Option Value) (s : Shared) (Q E : Value → Shared → Prop)
  (rest : Led) (k : Int) (tk t2 : Tok)
  (B : Below A₀ base outer h₀) (F : Fr h₀ L s.heap m) (X : (KH w.params).In h₀) (N : News h₀ L s.heap (rest))
  (T : Top p loose mean mg mb h₀) (hk : cs.kind = .function) (hk0 : 0 ≤ k) (hk1 : k < 65536)
  (hd : dp + 8 < recursionLimit) (hu : un + 64 < cLine)
  (ret : ∀ (b : Array UInt8) (t : Tok) (h' : Heap) (tk' : Nat), KBw.bInts b = [k / 256 % 256, k % 256] → Fr h₀ L h' m → News h₀ L h' rest → Q (.bytes b t) { s with heap := h', toks := tk' }):
  wpAny (model prg w) (ktrTop dp un gd cn cs L a ccd cl outer) (call (.ref (k_addr% "_law_big")) [.int k tk, .int 2 t2]) Q E s :=
  big2_in ⟨dp, un, gd, cn, cs, L, a, ccd, cl, outer⟩ A₀ base h₀ m s Q E rest k tk t2 B F X N T hk hk0 hk1 hd hu ret
theorem oct4_in {w : World} {p : Program} {loose : List Str} {mean : ExcName → Option Value} {mg mb : Str → Option Value}
  (κ : Cx) (A₀ : Around) (base h₀ : Heap) (m : Str → Option Value) (s : Shared) (Q E : Value → Shared → Prop)
  (led : Led) (k : Int) (tk t2 : Tok)
  (B : Below A₀ base κ.outer h₀) (F : Fr h₀ κ.L s.heap m) (X : (KH w.params).In h₀) (N : News h₀ κ.L s.heap (led))
  (T : Top p loose mean mg mb h₀) (hk : κ.cs.kind = .function) 
  (hd : κ.dp + 20 < recursionLimit) (hu : κ.un + 200 < cLine)
  (ret : 0 ≤ k → k < 4294967296 → ∀ (b : Array UInt8) (t : Tok) (h' : Heap) (tk' : Nat), KBw.bInts b = [k / 16777216 % 256, k / 65536 % 256, k / 256 % 256, k % 256] → Fr h₀ κ.L h' m → News h₀ κ.L h' led → Q (.bytes b t) { s with heap := h', toks := tk' })
  (err : ¬(0 ≤ k ∧ k < 4294967296) → ∀ (e t : Addr) (vs : List Value) (g₂ h' : Heap) (tk' : Nat), Fr h₀ κ.L g₂ m → g₂.UpToSlots h' → RaisedS base g₂ (envX κ.cn κ.cs κ.L κ.a κ.ccd κ.cl :: κ.outer) e (.ref 44) t vs led h' → E (.ref e) { s with heap := h', toks := tk' }):
  wpAny (model prg w) (T1 κ) (call (.ref (k_addr% "number_octets")) [.int k tk, .int 4 t2]) Q E s := (by exact use_of : Use _ (by
 first
 | (
  refine wpAny_call ?_
  k_dflt k_enter
  k_steps
  all_goals first
    | (exact err (by omega) _ _ _ _ _ _ (by assumption) (by assumption) (raised_sub (by assumption) (by intro p9 hp9; repeat (first | exact hp9 | apply List.Mem.tail))))
    | skip
  unfold IfStop
  refine McL.byInts (f := fun j => k / 2 ^ (8 * j).toNat % 256) ?_ [3, 2, 1, 0] [] (by decide) ?_
  · intro j r ys h0 h5 K9
    k_steps
    subst_vars
    exact K9 _
  intro zs hz
  simp only [List.nil_append]
  refine ints_cons (P := fun zs => PyProof.Rows.LCg.FinE _ _ _ _ _ (zs) _) hz (fun d e => mod_in e) (fun d3 t3 z3 e3 b3 hz3 => ?_)
  clear hz
  refine ints_cons (P := fun zs => PyProof.Rows.LCg.FinE _ _ _ _ _ (.int d3 t3 :: zs) _) hz3 (fun d e => mod_in e) (fun d2 t2 z2 e2 b2 hz2 => ?_)
  clear hz3
  refine ints_cons (P := fun zs => PyProof.Rows.LCg.FinE _ _ _ _ _ (.int d3 t3 :: .int d2 t2 :: zs) _) hz2 (fun d e => mod_in e) (fun d1 t1 z1 e1 b1 hz1 => ?_)
  clear hz2
  refine ints_cons (P := fun zs => PyProof.Rows.LCg.FinE _ _ _ _ _ (.int d3 t3 :: .int d2 t2 :: .int d1 t1 :: zs) _) hz1 (fun d e => mod_in e) (fun d0 t0 z0 e0 b0 hz0 => ?_)
  clear hz1
  refine ints_nil (P := fun zs => PyProof.Rows.LCg.FinE _ _ _ _ _ (.int d3 t3 :: .int d2 t2 :: .int d1 t1 :: .int d0 t0 :: zs) _) hz0 ?_
  clear hz0
  (try dsimp only)
  k_steps
  all_goals (exact ret (by omega) (by omega) _ _ _ _ (by refine (bis4 ⟨b3.1, b3.2, b2.1, b2.2, b1.1, b1.2, b0.1, b0.2⟩).trans ?_; rw [e3, e2, e1, e0]; (try simp only [Int.reduceMul, Int.reduceToNat, Int.reducePow, Int.ediv_one]); (try rfl)) (by k_asm) (by refine cb_drop (by assumption) ?_; intro p9 hp9; repeat (first | exact hp9 | apply List.Mem.tail))))
 | fail))

theorem oct4 {w : World} {p : Program} {loose : List Str} {mean : ExcName → Option Value} {mg mb : Str → Option Value}
  (dp un : Nat) (gd : Option (List Code)) (cn : Str) (cs : Scope) (a : Addr) (ccd : Value) (cl : List (Str × Addr)) (outer : List Env) (A₀ : Around) (base h₀ : Heap) (L : Addr) (m : Str → Option Value) (s : Shared) (Q E : Value → Shared → Prop)
  (led : Led) (k : Int) (tk t2 : Tok)
  (B : Below A₀ base outer h₀) (F : Fr h₀ L s.heap m) (X : (KH w.params).In h₀) (N : News h₀ L s.heap (led))
  (T : Top p loose mean mg mb h₀) (hk : cs.kind = .function) 
  (hd : dp + 20 < recursionLimit) (hu : un + 200 < cLine)
  (ret : 0 ≤ k → k < 4294967296 → ∀ (b : Array UInt8) (t : Tok) (h' : Heap) (tk' : Nat), KBw.bInts b = [k / 16777216 % 256, k / 65536 % 256, k / 256 % 256, k % 256] → Fr h₀ L h' m → News h₀ L h' led → Q (.bytes b t) { s with heap := h', toks := tk' })
  (err : ¬(0 ≤ k ∧ k < 4294967296) → ∀ (e t : Addr) (vs : List Value) (g₂ h' : Heap) (tk' : Nat), Fr h₀ L g₂ m → g₂.UpToSlots h' → RaisedS base g₂ (envX cn cs L a ccd cl :: outer) e (.ref 44) t vs led h' → E (.ref e) { s with heap := h', toks := tk' }):
  wpAny (model prg w) (ktrTop dp un gd cn cs L a ccd cl outer) (call (.ref (k_addr% "number_octets")) [.int k tk, .int 4 t2]) Q E s :=
  oct4_in ⟨dp, un, gd, cn, cs, L, a, ccd, cl, outer⟩ A₀ base h₀ m s Q E led k tk t2 B F X N T hk hd hu ret err
theorem big4_in {w : World} {p : Program} {loose : List Str} {mean : ExcName → Option Value} {mg mb : Str → Option Value}
  (κ : Cx) (A₀ : Around) (base h₀ : Heap) (m : Str → Option Value) (s : Shared) (Q E : Value → Shared → Prop)
  (rest : Led) (k : Int) (tk t2 : Tok)
  (B : Below A₀ base κ.outer h₀) (F : Fr h₀ κ.L s.heap m) (X : (KH w.params).In h₀) (N : News h₀ κ.L s.heap (rest))
  (T : Top p loose mean mg mb h₀) (hk : κ.cs.kind = .function) (hk0 : 0 ≤ k) (hk1 : k < 4294967296)
  (hd : κ.dp + 8 < recursionLimit) (hu : κ.un + 64 < cLine)
  (ret : ∀ (b : Array UInt8) (t : Tok) (h' : Heap) (tk' : Nat), KBw.bInts b = [k / 16777216 % 256, k / 65536 % 256, k / 256 % 256, k % 256] → Fr h₀ κ.L h' m → News h₀ κ.L h' rest → Q (.bytes b t) { s with heap := h', toks := tk' }):
  wpAny (model prg w) (T1 κ) (call (.ref (k_addr% "_law_big")) [.int k tk, .int 4 t2]) Q E s := (by exact use_of : Use _ (by
 first
 | (
  refine wpAny_call ?_
  k_dflt k_enter
  k_steps
  unfold IfStop
  refine McL.byInts (f := fun j => k / 256 ^ j.toNat % 256) ?_ [3, 2, 1, 0] [] (by decide) ?_
  · intro j r ys h0 h5 K9
    k_steps
    subst_vars
    exact K9 _
  intro zs hz
  simp only [List.nil_append]
  refine ints_cons (P := fun zs => PyProof.Rows.LCg.FinE _ _ _ _ _ (zs) _) hz (fun d e => mod_in e) (fun d3 t3 z3 e3 b3 hz3 => ?_)
  clear hz
  refine ints_cons (P := fun zs => PyProof.Rows.LCg.FinE _ _ _ _ _ (.int d3 t3 :: zs) _) hz3 (fun d e => mod_in e) (fun d2 t2 z2 e2 b2 hz2 => ?_)
  clear hz3
  refine ints_cons (P := fun zs => PyProof.Rows.LCg.FinE _ _ _ _ _ (.int d3 t3 :: .int d2 t2 :: zs) _) hz2 (fun d e => mod_in e) (fun d1 t1 z1 e1 b1 hz1 => ?_)
  clear hz2
  refine ints_cons (P := fun zs => PyProof.Rows.LCg.FinE _ _ _ _ _ (.int d3 t3 :: .int d2 t2 :: .int d1 t1 :: zs) _) hz1 (fun d e => mod_in e) (fun d0 t0 z0 e0 b0 hz0 => ?_)
  clear hz1
  refine ints_nil (P := fun zs => PyProof.Rows.LCg.FinE _ _ _ _ _ (.int d3 t3 :: .int d2 t2 :: .int d1 t1 :: .int d0 t0 :: zs) _) hz0 ?_
  clear hz0
  (try dsimp only)
  k_steps
  all_goals (exact ret _ _ _ _ (by refine (bis4 ⟨b3.1, b3.2, b2.1, b2.2, b1.1, b1.2, b0.1, b0.2⟩).trans ?_; rw [e3, e2, e1, e0]; (try simp only [Int.reduceMul, Int.reduceToNat, Int.reducePow, Int.ediv_one]); (try rfl)) (by k_asm) (by refine cb_drop (by assumption) ?_; intro p9 hp9; repeat (first | exact hp9 | apply List.Mem.tail))))
 | fail))

theorem big4 {w : World} {p : Program} {loose : List Str} {mean : ExcName → Option Value} {mg mb : Str → Option Value}
  (dp un : Nat) (gd : Option (List Code)) (cn : Str) (cs : Scope) (a : Addr) (ccd : Value) (cl : List (Str × Addr)) (outer : List Env) (A₀ : Around) (base h₀ : Heap) (L : Addr) (m : Str → Option Value) (s : Shared) (Q E : Value → Shared → Prop)
  (rest : Led) (k : Int) (tk t2 : Tok)
  (B : Below A₀ base outer h₀) (F : Fr h₀ L s.heap m) (X : (KH w.params).In h₀) (N : News h₀ L s.heap (rest))
  (T : Top p loose mean mg mb h₀) (hk : cs.kind = .function) (hk0 : 0 ≤ k) (hk1 : k < 4294967296)
  (hd : dp + 8 < recursionLimit) (hu : un + 64 < cLine)
  (ret : ∀ (b : Array UInt8) (t : Tok) (h' : Heap) (tk' : Nat), KBw.bInts b = [k / 16777216 % 256, k / 65536 % 256, k / 256 % 256, k % 256] → Fr h₀ L h' m → News h₀ L h' rest → Q (.bytes b t) { s with heap := h', toks := tk' }):
  wpAny (model prg w) (ktrTop dp un gd cn cs L a ccd cl outer) (call (.ref (k_addr% "_law_big")) [.int k tk, .int 4 t2]) Q E s :=
  big4_in ⟨dp, un, gd, cn, cs, L, a, ccd, cl, outer⟩ A₀ base h₀ m s Q E rest k tk t2 B F X N T hk hk0 hk1 hd hu ret
theorem oct6_in {w : World} {p : Program} {loose : List Str} {mean : ExcName → Option Value} {mg mb : Str → Option Value}
  (κ : Cx) (A₀ : Around) (base h₀ : Heap) (m : Str → Option Value) (s : Shared) (Q E : Value → Shared → Prop)
  (led : Led) (k : Int) (tk t2 : Tok)
  (B : Below A₀ base κ.outer h₀) (F : Fr h₀ κ.L s.heap m) (X : (KH w.params).In h₀) (N : News h₀ κ.L s.heap (led))
  (T : Top p loose mean mg mb h₀) (hk : κ.cs.kind = .function) 
  (hd : κ.dp + 20 < recursionLimit) (hu : κ.un + 200 < cLine)
  (ret : 0 ≤ k → k < 281474976710656 → ∀ (b : Array UInt8) (t : Tok) (h' : Heap) (tk' : Nat), KBw.bInts b = [k / 1099511627776 % 256, k / 4294967296 % 256, k / 16777216 % 256, k / 65536 % 256, k / 256 % 256, k % 256] → Fr h₀ κ.L h' m → News h₀ κ.L h' led → Q (.bytes b t) { s with heap := h', toks := tk' })
  (err : ¬(0 ≤ k ∧ k < 281474976710656) → ∀ (e t : Addr) (vs : List Value) (g₂ h' : Heap) (tk' : Nat), Fr h₀ κ.L g₂ m → g₂.UpToSlots h' → RaisedS base g₂ (envX κ.cn κ.cs κ.L κ.a κ.ccd κ.cl :: κ.outer) e (.ref 44) t vs led h' → E (.ref e) { s with heap := h', toks := tk' }):
  wpAny (model prg w) (T1 κ) (call (.ref (k_addr% "number_octets")) [.int k tk, .int 6 t2]) Q E s := (by exact use_of : Use _ (by
 first
 | (
  refine wpAny_call ?_
  k_dflt k_enter
  k_steps
  all_goals first
    | (exact err (by omega) _ _ _ _ _ _ (by assumption) (by assumption) (raised_sub (by assumption) (by intro p9 hp9; repeat (first | exact hp9 | apply List.Mem.tail))))
    | skip
  unfold IfStop
  refine McL.byInts (f := fun j => k / 2 ^ (8 * j).toNat % 256) ?_ [5, 4, 3, 2, 1, 0] [] (by decide) ?_
  · intro j r ys h0 h5 K9
    k_steps
    subst_vars
    exact K9 _
  intro zs hz
  simp only [List.nil_append]
  refine ints_cons (P := fun zs => PyProof.Rows.LCg.FinE _ _ _ _ _ (zs) _) hz (fun d e => mod_in e) (fun d5 t5 z5 e5 b5 hz5 => ?_)
  clear hz
  refine ints_cons (P := fun zs => PyProof.Rows.LCg.FinE _ _ _ _ _ (.int d5 t5 :: zs) _) hz5 (fun d e => mod_in e) (fun d4 t4 z4 e4 b4 hz4 => ?_)
  clear hz5
  refine ints_cons (P := fun zs => PyProof.Rows.LCg.FinE _ _ _ _ _ (.int d5 t5 :: .int d4 t4 :: zs) _) hz4 (fun d e => mod_in e) (fun d3 t3 z3 e3 b3 hz3 => ?_)
  clear hz4
  refine ints_cons (P := fun zs => PyProof.Rows.LCg.FinE _ _ _ _ _ (.int d5 t5 :: .int d4 t4 :: .int d3 t3 :: zs) _) hz3 (fun d e => mod_in e) (fun d2 t2 z2 e2 b2 hz2 => ?_)
  clear hz3
  refine ints_cons (P := fun zs => PyProof.Rows.LCg.FinE _ _ _ _ _ (.int d5 t5 :: .int d4 t4 :: .int d3 t3 :: .int d2 t2 :: zs) _) hz2 (fun d e => mod_in e) (fun d1 t1 z1 e1 b1 hz1 => ?_)
  clear hz2
  refine ints_cons (P := fun zs => PyProof.Rows.LCg.FinE _ _ _ _ _ (.int d5 t5 :: .int d4 t4 :: .int d3 t3 :: .int d2 t2 :: .int d1 t1 :: zs) _) hz1 (fun d e => mod_in e) (fun d0 t0 z0 e0 b0 hz0 => ?_)
  clear hz1
  refine ints_nil (P := fun zs => PyProof.Rows.LCg.FinE _ _ _ _ _ (.int d5 t5 :: .int d4 t4 :: .int d3 t3 :: .int d2 t2 :: .int d1 t1 :: .int d0 t0 :: zs) _) hz0 ?_
  clear hz0
  (try dsimp only)
  k_steps
  all_goals (exact ret (by omega) (by omega) _ _ _ _ (by refine (bis6 ⟨b5.1, b5.2, b4.1, b4.2, b3.1, b3.2, b2.1, b2.2, b1.1, b1.2, b0.1, b0.2⟩).trans ?_; rw [e5, e4, e3, e2, e1, e0]; (try simp only [Int.reduceMul, Int.reduceToNat, Int.reducePow, Int.ediv_one]); (try rfl)) (by k_asm) (by refine cb_drop (by assumption) ?_; intro p9 hp9; repeat (first | exact hp9 | apply List.Mem.tail))))
 | fail))

theorem oct6 {w : World} {p : Program} {loose : List Str} {mean : ExcName → Option Value} {mg mb : Str → Option Value}
  (dp un : Nat) (gd : Option (List Code)) (cn : Str) (cs : Scope) (a : Addr) (ccd : Value) (cl : List (Str × Addr)) (outer : List Env) (A₀ : Around) (base h₀ : Heap) (L : Addr) (m : Str → Option Value) (s : Shared) (Q E : Value → Shared → Prop)
  (led : Led) (k : Int) (tk t2 : Tok)
  (B : Below A₀ base outer h₀) (F : Fr h₀ L s.heap m) (X : (KH w.params).In h₀) (N : News h₀ L s.heap (led))
  (T : Top p loose mean mg mb h₀) (hk : cs.kind = .function) 
  (hd : dp + 20 < recursionLimit) (hu : un + 200 < cLine)
  (ret : 0 ≤ k → k < 281474976710656 → ∀ (b : Array UInt8) (t : Tok) (h' : Heap) (tk' : Nat), KBw.bInts b = [k / 1099511627776 % 256, k / 4294967296 % 256, k / 16777216 % 256, k / 65536 % 256, k / 256 % 256, k % 256] → Fr h₀ L h' m → News h₀ L h' led → Q (.bytes b t) { s with heap := h', toks := tk' })
  (err : ¬(0 ≤ k ∧ k < 281474976710656) → ∀ (e t : Addr) (vs : List Value) (g₂ h' : Heap) (tk' : Nat), Fr h₀ L g₂ m → g₂.UpToSlots h' → RaisedS base g₂ (envX cn cs L a ccd cl :: outer) e (.ref 44) t vs led h' → E (.ref e) { s with heap := h', toks := tk' }):
  wpAny (model prg w) (ktrTop dp un gd cn cs L a ccd cl outer) (call (.ref (k_addr% "number_octets")) [.int k tk, .int 6 t2]) Q E s :=
  oct6_in ⟨dp, un, gd, cn, cs, L, a, ccd, cl, outer⟩ A₀ base h₀ m s Q E led k tk t2 B F X N T hk hd hu ret err
theorem big6_in {w : World} {p : Program} {loose : List Str} {mean : ExcName → Option Value} {mg mb : Str → Option Value}
  (κ : Cx) (A₀ : Around) (base h₀ : Heap) (m : Str → Option Value) (s : Shared) (Q E : Value → Shared → Prop)
  (rest : Led) (k : Int) (tk t2 : Tok)
  (B : Below A₀ base κ.outer h₀) (F : Fr h₀ κ.L s.heap m) (X : (KH w.params).In h₀) (N : News h₀ κ.L s.heap (rest))
  (T : Top p loose mean mg mb h₀) (hk : κ.cs.kind = .function) (hk0 : 0 ≤ k) (hk1 : k < 281474976710656)
  (hd : κ.dp + 8 < recursionLimit) (hu : κ.un + 64 < cLine)
  (ret : ∀ (b : Array UInt8) (t : Tok) (h' : Heap) (tk' : Nat), KBw.bInts b = [k / 1099511627776 % 256, k / 4294967296 % 256, k / 16777216 % 256, k / 65536 % 256, k / 256 % 256, k % 256] → Fr h₀ κ.L h' m → News h₀ κ.L h' rest → Q (.bytes b t) { s with heap := h', toks := tk' }):
  wpAny (model prg w) (T1 κ) (call (.ref (k_addr% "_law_big")) [.int k tk, .int 6 t2]) Q E s := (by exact use_of : Use _ (by
 first
 | (
  refine wpAny_call ?_
  k_dflt k_enter
  k_steps
  unfold IfStop
  refine McL.byInts (f := fun j => k / 256 ^ j.toNat % 256) ?_ [5, 4, 3, 2, 1, 0] [] (by decide) ?_
  · intro j r ys h0 h5 K9
    k_steps
    subst_vars
    exact K9 _
  intro zs hz
  simp only [List.nil_append]
  refine ints_cons (P := fun zs => PyProof.Rows.LCg.FinE _ _ _ _ _ (zs) _) hz (fun d e => mod_in e) (fun d5 t5 z5 e5 b5 hz5 => ?_)
  clear hz
  refine ints_cons (P := fun zs => PyProof.Rows.LCg.FinE _ _ _ _ _ (.int d5 t5 :: zs) _) hz5 (fun d e => mod_in e) (fun d4 t4 z4 e4 b4 hz4 => ?_)
  clear hz5
  refine ints_cons (P := fun zs => PyProof.Rows.LCg.FinE _ _ _ _ _ (.int d5 t5 :: .int d4 t4 :: zs) _) hz4 (fun d e => mod_in e) (fun d3 t3 z3 e3 b3 hz3 => ?_)
  clear hz4
  refine ints_cons (P := fun zs => PyProof.Rows.LCg.FinE _ _ _ _ _ (.int d5 t5 :: .int d4 t4 :: .int d3 t3 :: zs) _) hz3 (fun d e => mod_in e) (fun d2 t2 z2 e2 b2 hz2 => ?_)
  clear hz3
  refine ints_cons (P := fun zs => PyProof.Rows.LCg.FinE _ _ _ _ _ (.int d5 t5 :: .int d4 t4 :: .int d3 t3 :: .int d2 t2 :: zs) _) hz2 (fun d e => mod_in e) (fun d1 t1 z1 e1 b1 hz1 => ?_)
  clear hz2
  refine ints_cons (P := fun zs => PyProof.Rows.LCg.FinE _ _ _ _ _ (.int d5 t5 :: .int d4 t4 :: .int d3 t3 :: .int d2 t2 :: .int d1 t1 :: zs) _) hz1 (fun d e => mod_in e) (fun d0 t0 z0 e0 b0 hz0 => ?_)
  clear hz1
  refine ints_nil (P := fun zs => PyProof.Rows.LCg.FinE _ _ _ _ _ (.int d5 t5 :: .int d4 t4 :: .int d3 t3 :: .int d2 t2 :: .int d1 t1 :: .int d0 t0 :: zs) _) hz0 ?_
  clear hz0
  (try dsimp only)
  k_steps
  all_goals (exact ret _ _ _ _ (by refine (bis6 ⟨b5.1, b5.2, b4.1, b4.2, b3.1, b3.2, b2.1, b2.2, b1.1, b1.2, b0.1, b0.2⟩).trans ?_; rw [e5, e4, e3, e2, e1, e0]; (try simp only [Int.reduceMul, Int.reduceToNat, Int.reducePow, Int.ediv_one]); (try rfl)) (by k_asm) (by refine cb_drop (by assumption) ?_; intro p9 hp9; repeat (first | exact hp9 | apply List.Mem.tail))))
 | fail))
theorem big6 {w : World} {p : Program} {loose : List Str} {mean : ExcName → Option Value} {mg mb : Str → Option Value}
  (dp un : Nat) (gd : Option (List Code)) (cn : Str) (cs : Scope) (a : Addr) (ccd : Value) (cl : List (Str × Addr)) (outer : List Env) (A₀ : Around) (base h₀ : Heap) (L : Addr) (m : Str → Option Value) (s : Shared) (Q E : Value → Shared → Prop)
  (rest : Led) (k : Int) (tk t2 : Tok)
  (B : Below A₀ base outer h₀) (F : Fr h₀ L s.heap m) (X : (KH w.params).In h₀) (N : News h₀ L s.heap (rest))
  (T : Top p loose mean mg mb h₀) (hk : cs.kind = .function) (hk0 : 0 ≤ k) (hk1 : k < 281474976710656)
  (hd : dp + 8 < recursionLimit) (hu : un + 64 < cLine)
  (ret : ∀ (b : Array UInt8) (t : Tok) (h' : Heap) (tk' : Nat), KBw.bInts b = [k / 1099511627776 % 256, k / 4294967296 % 256, k / 16777216 % 256, k / 65536 % 256, k / 256 % 256, k % 256] → Fr h₀ L h' m → News h₀ L h' rest → Q (.bytes b t) { s with heap := h', toks := tk' }):
  wpAny (model prg w) (ktrTop dp un gd cn cs L a ccd cl outer) (call (.ref (k_addr% "_law_big")) [.int k tk, .int 6 t2]) Q E s :=
  big6_in ⟨dp, un, gd, cn, cs, L, a, ccd, cl, outer⟩ A₀ base h₀ m s Q E rest k tk t2 B F X N T hk hk0 hk1 hd hu ret
theorem wdoL31 : True := by
  k_with "off L31" => skip
  trivial
end
section
set_option maxHeartbeats 800000
theorem wdsL50 : True := by
  k_with "getMethod type:Exception" =>
    fail_if_success (k_extra "off L50")
    ((k_here; refine' method_type ?z1144F ?z1144X ?z1144m (by decide +kernel) ?z1144e ?z1144h ?_; (case z1144F => k_asm); (case z1144X => k_asm); (case z1144m => exact exc_meta); (case z1144e => k_dflt k_is); (case z1144h => k_handed)))
  k_with "call builtin:Exception.__init__" =>
    fail_if_success (k_extra "off L50")
    ((k_here; (refine' size_init ?z6371F ?z6371N ?z6371n ?z6371X ?_; (case z6371F => k_asm); (case z6371N => k_asm); (case z6371n => assumption); (case z6371X => k_asm); k_whole); intro t' h' F' N' ne' nt'; (try dsimp only)))
  k_with "setAttr ref" =>
    fail_if_success (k_extra "off L50")
    ((k_here; (with_reducible show wpAny _ _ (setAttr (Value.ref _) ("message" : Str) _) _ _ _); (refine' size_store ?z3836F ?z3836N ?z3836n ?z3836X ?_; (case z3836F => k_asm); (case z3836N => k_asm); (case z3836n => assumption); (case z3836X => k_asm); k_whole); intro dx' h' tk' F' N'; (try dsimp only)))
  k_with "exec Raise some none" =>
    fail_if_success (k_extra "off L50")
    ((k_here; (with_reducible show wpAny _ _ (exec (Stmt.Raise (some (Expr.Call (Expr.Name ("SizeError" : Str) _) (_ :: _) [] _)) none _) _) _ _ _); k_dflt (refine' size_raise ?z1466B ?z1466F ?z1466X ?z1466T ?z1466hd ?z1466hu ?z1466hA ?_ ?z1466a ?z1466b ?z1466c ?z1466d; (case z1466hA => rfl); (case z1466B => assumption); (case z1466F => k_asm); (case z1466X => k_asm); (case z1466T => k_asm); (case z1466hd => ktr_room); (case z1466hu => ktr_room); (case z1466a => first | with_reducible exact star_bin | rfl); (case z1466b => rfl); (case z1466c => rfl); (case z1466d => rfl); k_whole)))
  k_with "SizeEnd" =>
    fail_if_success (k_extra "off L50")
    ((k_here; (refine' SizeEnd.intro ?z358F ?z358N ?_; (case z358F => k_asm); (case z358N => k_asm)); intro e' t' dx' h' tk' F' N' ne'; (try dsimp only)))
  k_with "leaving ref" =>
    fail_if_success (k_extra "off L50")
    ((k_here; first
      | (refine' leave_on ?z8181K ?z8181F ?z8181R ?z8181U ?_ ?z8181f; (case z8181R => assumption); (case z8181K => assumption); (case z8181F => assumption); (case z8181U => assumption); (case z8181f => rfl); k_whole; intro h' R' U'; (try dsimp only at R' U' ⊢))
      | (refine' leave_size ?z8181K ?z8181F ?z8181N ?z8181n ?_ ?z8181f ?z8181h; (case z8181K => assumption); (case z8181F => k_asm); (case z8181N => k_asm); (case z8181n => assumption); (case z8181f => rfl); (case z8181h => first | rfl | assumption); k_whole; intro h' R' U'; (try dsimp only at R' U' ⊢))))
  k_with "compareOp NotIn str ref" =>
    fail_if_success (k_extra "off L50")
    ((k_here; (with_reducible show wpAny _ _ (compareOp CmpOp.NotIn (Value.str _ _) (Value.ref 73)) _ _ _); (refine' role_notin ?z9558X ?_; (case z9558X => k_in); k_whole)))
  trivial
theorem chk_row_in {w : World} {p : Program} {loose : List Str} {mean : ExcName → Option Value} {mg mb : Str → Option Value}
  (κ : Cx) (A₀ : Around) (base h₀ : Heap) (m : Str → Option Value) (s : Shared) (Q E : Value → Shared → Prop)
  (led : Led) (x dx rg fd : Addr) (inst low mac cost prio port hops : Int) (t1 t2 t3 t4 t5 t6 t7 t8 : Tok) (role : Str) (q1 q2 q3 q4 q5 q6 q7 q8 : Tok)
  (B : Below A₀ base κ.outer h₀) (F : Fr h₀ κ.L s.heap m) (X : (KH w.params).In h₀) (N : News h₀ κ.L s.heap (led))
  (T : Top p loose mean mg mb h₀) (hk : κ.cs.kind = .function) (he1 : (x, instObj 102 dx) ∈ led) (he2 : (dx, dictOf [{ hash := PyData.keyHash w.params "instance", key := .str "instance" q1, val := .int inst t1 }, { hash := PyData.keyHash w.params "regional", key := .str "regional" q2, val := .ref rg }, { hash := PyData.keyHash w.params "cost", key := .str "cost" q3, val := .int cost t4 }, { hash := PyData.keyHash w.params "bridge_priority", key := .str "bridge_priority" q4, val := .int prio t5 }, { hash := PyData.keyHash w.params "port_priority", key := .str "port_priority" q5, val := .int port t6 }, { hash := PyData.keyHash w.params "hops", key := .str "hops" q6, val := .int hops t7 }, { hash := PyData.keyHash w.params "role", key := .str "role" q7, val := .str role t8 }, { hash := PyData.keyHash w.params "flags", key := .str "flags" q8, val := .ref fd }] 8) ∈ led) (he3 : (rg, tupO [.int low t2, .int mac t3]) ∈ led)
  (hd : κ.dp + 20 < recursionLimit) (hu : κ.un + 200 < cLine)
  (ret : IsRow inst low prio port role → ∀ (h' : Heap) (tk' : Nat), Fr h₀ κ.L h' m → News h₀ κ.L h' led → Q .none { s with heap := h', toks := tk' })
  (err : ¬IsRow inst low prio port role → ∀ (e t : Addr) (vs : List Value) (g₂ h' : Heap) (tk' : Nat), Fr h₀ κ.L g₂ m → g₂.UpToSlots h' → RaisedS base g₂ (envX κ.cn κ.cs κ.L κ.a κ.ccd κ.cl :: κ.outer) e (.ref 44) t vs led h' → E (.ref e) { s with heap := h', toks := tk' }):
  wpAny (model prg w) (T1 κ) (call (.ref (k_addr% "check_row")) [.ref x]) Q E s := (by exact use_of : Use _ (by
 first
 | (
  have N9 : News h₀ κ.L s.heap ((x, instObj 102 dx) :: (dx, dictOf [{ hash := PyData.keyHash w.params "instance", key := .str "instance" q1, val := .int inst t1 }, { hash := PyData.keyHash w.params "regional", key := .str "regional" q2, val := .ref rg }, { hash := PyData.keyHash w.params "cost", key := .str "cost" q3, val := .int cost t4 }, { hash := PyData.keyHash w.params "bridge_priority", key := .str "bridge_priority" q4, val := .int prio t5 }, { hash := PyData.keyHash w.params "port_priority", key := .str "port_priority" q5, val := .int port t6 }, { hash := PyData.keyHash w.params "hops", key := .str "hops" q6, val := .int hops t7 }, { hash := PyData.keyHash w.params "role", key := .str "role" q7, val := .str role t8 }, { hash := PyData.keyHash w.params "flags", key := .str "flags" q8, val := .ref fd }] 8) :: (rg, tupO [.int low t2, .int mac t3]) :: led) := by
    intro p9 hp9
    simp only [List.mem_cons] at hp9
    rcases hp9 with rfl | rfl | rfl | hp9
    · exact N _ he1
    · exact N _ he2
    · exact N _ he3
    · exact N _ hp9
  clear N
  refine wpAny_call ?_
  k_dflt k_enter
  k_steps
  all_goals first
    | exact ret ⟨by assumption, by omega, by omega, by omega, by omega, by omega⟩ _ _ (by k_asm) (by refine cb_drop (by assumption) ?_; intro p9 hp9; repeat (first | exact hp9 | apply List.Mem.tail))
    | exact err (by intro h9; obtain ⟨h1, h2, h3, h4, h5, h6⟩ := h9; first | omega | simp_all) _ _ _ _ _ _ (by assumption) (by assumption) (raised_sub (by assumption) (by intro p9 hp9; repeat (first | exact hp9 | apply List.Mem.tail))))
 | fail))
theorem chk_row {w : World} {p : Program} {loose : List Str} {mean : ExcName → Option Value} {mg mb : Str → Option Value}
  (dp un : Nat) (gd : Option (List Code)) (cn : Str) (cs : Scope) (a : Addr) (ccd : Value) (cl : List (Str × Addr)) (outer : List Env) (A₀ : Around) (base h₀ : Heap) (L : Addr) (m : Str → Option Value) (s : Shared) (Q E : Value → Shared → Prop)
  (led : Led) (x dx rg fd : Addr) (inst low mac cost prio port hops : Int) (t1 t2 t3 t4 t5 t6 t7 t8 : Tok) (role : Str) (q1 q2 q3 q4 q5 q6 q7 q8 : Tok)
  (B : Below A₀ base outer h₀) (F : Fr h₀ L s.heap m) (X : (KH w.params).In h₀) (N : News h₀ L s.heap (led))
  (T : Top p loose mean mg mb h₀) (hk : cs.kind = .function) (he1 : (x, instObj 102 dx) ∈ led) (he2 : (dx, dictOf [{ hash := PyData.keyHash w.params "instance", key := .str "instance" q1, val := .int inst t1 }, { hash := PyData.keyHash w.params "regional", key := .str "regional" q2, val := .ref rg }, { hash := PyData.keyHash w.params "cost", key := .str "cost" q3, val := .int cost t4 }, { hash := PyData.keyHash w.params "bridge_priority", key := .str "bridge_priority" q4, val := .int prio t5 }, { hash := PyData.keyHash w.params "port_priority", key := .str "port_priority" q5, val := .int port t6 }, { hash := PyData.keyHash w.params "hops", key := .str "hops" q6, val := .int hops t7 }, { hash := PyData.keyHash w.params "role", key := .str "role" q7, val := .str role t8 }, { hash := PyData.keyHash w.params "flags", key := .str "flags" q8, val := .ref fd }] 8) ∈ led) (he3 : (rg, tupO [.int low t2, .int mac t3]) ∈ led)
  (hd : dp + 20 < recursionLimit) (hu : un + 200 < cLine)
  (ret : IsRow inst low prio port role → ∀ (h' : Heap) (tk' : Nat), Fr h₀ L h' m → News h₀ L h' led → Q .none { s with heap := h', toks := tk' })
  (err : ¬IsRow inst low prio port role → ∀ (e t : Addr) (vs : List Value) (g₂ h' : Heap) (tk' : Nat), Fr h₀ L g₂ m → g₂.UpToSlots h' → RaisedS base g₂ (envX cn cs L a ccd cl :: outer) e (.ref 44) t vs led h' → E (.ref e) { s with heap := h', toks := tk' }):
  wpAny (model prg w) (ktrTop dp un gd cn cs L a ccd cl outer) (call (.ref (k_addr% "check_row")) [.ref x]) Q E s :=
  chk_row_in ⟨dp, un, gd, cn, cs, L, a, ccd, cl, outer⟩ A₀ base h₀ m s Q E led x dx rg fd inst low mac cost prio port hops t1 t2 t3 t4 t5 t6 t7 t8 role q1 q2 q3 q4 q5 q6 q7 q8 B F X N T hk he1 he2 he3 hd hu ret err
theorem wdoL50 : True := by
  k_with "off L50" => skip
  trivial
end
section
set_option maxHeartbeats 800000
section flags
open PySem PyProof.Rows.LCg
abbrev flagItem (k : Str) (i : Int) : Asg := fun m => ∃ t u, m "name" = some (.str k t) ∧ m "bit" = some (.int i u)
theorem flags_tup {P : Params} {h : Heap} (X : (KH P).In h) : h.IsTuple 112 #[.ref 107, .ref 108, .ref 109, .ref 110, .ref 111] := ⟨_, X 112 _ (by k_is), rfl, _, rfl⟩
theorem flag_tups {P : Params} {h : Heap} (X : (KH P).In h) : (∃ t u, h.IsTuple 107 #[.str "change" t, .int 1 u]) ∧ (∃ t u, h.IsTuple 108 #[.str "proposal" t, .int 2 u]) ∧ (∃ t u, h.IsTuple 109 #[.str "learning" t, .int 16 u]) ∧
    (∃ t u, h.IsTuple 110 #[.str "forwarding" t, .int 32 u]) ∧ (∃ t u, h.IsTuple 111 #[.str "agreement" t, .int 64 u]) :=
  ⟨⟨_, _, _, X 107 _ (by k_is), rfl, _, rfl⟩, ⟨_, _, _, X 108 _ (by k_is), rfl, _, rfl⟩, ⟨_, _, _, X 109 _ (by k_is), rfl, _, rfl⟩, ⟨_, _, _, X 110 _ (by k_is), rfl, _, rfl⟩, ⟨_, _, _, X 111 _ (by k_is), rfl, _, rfl⟩⟩
section
variable {w : World} {A : Around} {E : Value → Shared → Prop} {h₀ : Heap} {L : Addr} {m : Str → Option Value} {env : Env}
theorem flags_hasg {scope : Scope} {cl : List (Str × Addr)} {pa pb tp : Pos} {kk : Nat} (X : (KH w.params).In h₀) (hh : A.handled = none) (hkind : scope.kind = .function) (ha : scope.names.lookup ("name" : Str) = some .local) (hb : scope.names.lookup ("bit" : Str) = some .local) :
    HasgOf prg w A h₀ env (.Tuple [.Name "name" pa, .Name "bit" pb] kk tp) scope cl (fun i v _ => (#[.ref 107, .ref 108, .ref 109, .ref 110, .ref 111] : Array Value)[i]? = some v) [flagItem "change" 1, flagItem "proposal" 2, flagItem "learning" 16, flagItem "forwarding" 32, flagItem "agreement" 64] := by
  refine asg_pair hh hkind ha hb (by decide) fun i v h asg hi hv hk => ?_
  obtain ⟨⟨a1, b1, i1⟩, ⟨a2, b2, i2⟩, ⟨a3, b3, i3⟩, ⟨a4, b4, i4⟩, ⟨a5, b5, i5⟩⟩ := flag_tups (X.keeps hk)
  rcases i with _ | _ | _ | _ | _ | i
  · cases hi; cases hv; exact ⟨_, _, _, rfl, i1, fun m₂ x y => ⟨_, _, x, y⟩⟩
  · cases hi; cases hv; exact ⟨_, _, _, rfl, i2, fun m₂ x y => ⟨_, _, x, y⟩⟩
  · cases hi; cases hv; exact ⟨_, _, _, rfl, i3, fun m₂ x y => ⟨_, _, x, y⟩⟩
  · cases hi; cases hv; exact ⟨_, _, _, rfl, i4, fun m₂ x y => ⟨_, _, x, y⟩⟩
  · cases hi; cases hv; exact ⟨_, _, _, rfl, i5, fun m₂ x y => ⟨_, _, x, y⟩⟩
  · exfalso
    have : ([flagItem "change" 1, flagItem "proposal" 2, flagItem "learning" 16, flagItem "forwarding" 32, flagItem "agreement" 64] : List Asg).length ≤ i + 5 := by simp only [List.length_cons, List.length_nil]; omega
    rw [List.getElem?_eq_none this] at hi
    cases hi
theorem MSrcL.flags {elt : PySem.Expr} {ifs : List PySem.Expr} {scope : Scope} {cl : List (Str × Addr)} {Fin : Shared → List Value → Led → Prop} {news : Led} {s₁ : Shared} {pa pb tp : Pos} {kk : Nat} (X : (KH w.params).In h₀)
    (hh : A.handled = none) (F : Fr h₀ L s₁.heap m) (N : News h₀ L s₁.heap news) (hkind : scope.kind = .function) (ha : scope.names.lookup ("name" : Str) = some .local) (hb : scope.names.lookup ("bit" : Str) = some .local)
    (h : ∀ g, McL prg w A h₀ L m env elt ifs scope cl { s₁ with heap := g } (fun _ => True) (Fin { s₁ with heap := g }) [flagItem "change" 1, flagItem "proposal" 2, flagItem "learning" 16, flagItem "forwarding" 32, flagItem "agreement" 64] [] news) :
    MSrcL prg w A E h₀ L m env elt (.Tuple [.Name "name" pa, .Name "bit" pb] kk tp) ifs scope cl Fin (.ref 112) s₁ :=
  MSrcL.tup hh F N (flags_tup X) (Nat.le_of_ble_eq_true rfl) rfl (flags_hasg X hh hkind ha hb) h
theorem MSrcD.flags {kx vx : PySem.Expr} {ifs : List PySem.Expr} {scope : Scope} {cl : List (Str × Addr)} {Fin : Shared → List (Str × Value) → Led → Prop} {news : Led} {s₁ : Shared} {pa pb tp : Pos} {kk : Nat} (X : (KH w.params).In h₀)
    (hh : A.handled = none) (F : Fr h₀ L s₁.heap m) (N : News h₀ L s₁.heap news) (hkind : scope.kind = .function) (ha : scope.names.lookup ("name" : Str) = some .local) (hb : scope.names.lookup ("bit" : Str) = some .local)
    (h : ∀ g, McD prg w A h₀ L m env kx vx ifs scope cl { s₁ with heap := g } (fun _ => True) (Fin { s₁ with heap := g }) [flagItem "change" 1, flagItem "proposal" 2, flagItem "learning" 16, flagItem "forwarding" 32, flagItem "agreement" 64] [] news) :
    MSrcD prg w A E h₀ L m env kx vx (.Tuple [.Name "name" pa, .Name "bit" pb] kk tp) ifs scope cl Fin (.ref 112) s₁ :=
  MSrcD.tup hh F N (flags_tup X) (Nat.le_of_ble_eq_true rfl) rfl (flags_hasg X hh hkind ha hb) h
end
end flags
end
section
set_option maxHeartbeats 800000
theorem wdsL56 : True := by
  k_with "MSrcL" =>
    fail_if_success (k_extra "off L56")
    ((k_here; (with_reducible show MSrcL _ _ _ _ _ _ _ _ _ _ _ _ _ _ (Value.ref 112) _); k_dflt (refine' MSrcL.flags ?z8062x ?z8062h ?z8062F ?z8062N ?z8062hk ?z8062ha ?z8062hb ?_; (case z8062x => k_asm); (case z8062h => rfl); (case z8062F => k_asm); (case z8062N => k_asm); (case z8062hk => rfl); (case z8062ha => rfl); (case z8062hb => rfl); intro g9')))
  k_with "MSrcD" =>
    fail_if_success (k_extra "off L56")
    ((k_here; (with_reducible show MSrcD _ _ _ _ _ _ _ _ _ _ _ _ _ _ _ (Value.ref 112) _); k_dflt (refine' MSrcD.flags ?z9714x ?z9714h ?z9714F ?z9714N ?z9714hk ?z9714ha ?z9714hb ?_; (case z9714x => k_asm); (case z9714h => rfl); (case z9714F => k_asm); (case z9714N => k_asm); (case z9714hk => rfl); (case z9714ha => rfl); (case z9714hb => rfl); intro g9')))
  k_with "McL" =>
    fail_if_success (k_extra "off L56")
    (first | (with_reducible refine McL.done ?_) | ((first | (with_reducible show McL _ _ _ _ _ _ _ _ _ _ _ _ _ _ (_ :: _) _ _) | (fail_if_success (k_extra "mcl guard"))); with_unfolding_all first
      | (refine McL.turn ?_; intro I' oI' C' oC' D' m' h' tk' E' hC' hasg' F' N' off' ne'; (try dsimp only at hasg'); (first | (obtain ⟨t9', u9', ha9', hb9'⟩ := hasg') | (obtain ⟨t9', ha9'⟩ := hasg') | skip))
      | refine McL.done ?_))
  k_with "McD" =>
    fail_if_success (k_extra "off L56")
    (first | (with_reducible refine McD.done ?_) | (with_unfolding_all first
      | (refine McD.turn ?_; intro I' oI' C' oC' D' oD' m' h' tk' E' hC' hasg' F' N' off' ne'; (try dsimp only at hasg'); (first | (obtain ⟨t9', u9', ha9', hb9'⟩ := hasg') | (obtain ⟨t9', ha9'⟩ := hasg') | skip))
      | refine McD.done ?_))
  k_with "my k_lt" =>
    fail_if_success (k_extra "off L56")
    skip
  k_with "mem9" =>
    fail_if_success (k_extra "off L56")
    (first | ((with_reducible show Has _ (_ :: _)); first | exact Has.head | exact Has.tail (by k_extra "mem9")) | exact Has.of (by assumption))
  k_with "my k_ne" =>
    fail_if_success (k_extra "off L56")
    ((try dsimp only); first | assumption | exact Ne.symm (by assumption) | exact neP (by assumption) (by k_extra "mem9") | exact neQ (by assumption) (by k_extra "mem9"))
  k_with "newList" =>
    fail_if_success (k_extra "off L56")
    (k_here; k_dflt (refine' newList_L ?nl1 ?nl2 ?_; (case nl1 => k_asm); (case nl2 => k_asm); k_whole); intro l' h' F' o9 N' l1; (try k_lt l1); (try k_sweep))
  k_with "newTuple" =>
    fail_if_success (k_extra "off L56")
    (k_here; k_dflt (refine' newTuple_L ?nt1 ?nt2 ?_ ?nt3; (case nt1 => k_asm); (case nt2 => k_asm); (case nt3 => kmk_size)); intro D' h' F' o9 N' l1; (try k_lt l1); (try k_sweep))
  trivial
theorem news_dt {h₀ h : Heap} {L : Addr} {a b c : Addr × Obj} {r led : Led} (N : News h₀ L h (a :: b :: c :: r)) (hs : ∀ p ∈ led, p ∈ r) : News h₀ L h (a :: c :: led) := by
  intro p hp
  rcases List.mem_cons.mp hp with rfl | hp
  · exact N _ (List.mem_cons_self ..)
  · rcases List.mem_cons.mp hp with rfl | hp
    · exact N _ (List.mem_cons_of_mem _ (List.mem_cons_of_mem _ (List.mem_cons_self ..)))
    · exact N _ (List.mem_cons_of_mem _ (List.mem_cons_of_mem _ (List.mem_cons_of_mem _ (hs _ hp))))
theorem told_in {w : World} {p : Program} {loose : List Str} {mean : ExcName → Option Value} {mg mb : Str → Option Value}
  (κ : Cx) (A₀ : Around) (base h₀ : Heap) (m : Str → Option Value) (s : Shared) (Q E : Value → Shared → Prop)
  (led : Led) (x dx rg fd : Addr) (inst low mac cost prio port hops : Int) (t1 t2 t3 t4 t5 t6 t7 t8 : Tok) (role : Str) (q1 q2 q3 q4 q5 q6 q7 q8 : Tok) (fD : Obj) (f1 f2 f3 f4 f5 : Bool)
  (B : Below A₀ base κ.outer h₀) (F : Fr h₀ κ.L s.heap m) (X : (KH w.params).In h₀) (N : News h₀ κ.L s.heap (led))
  (T : Top p loose mean mg mb h₀) (hk : κ.cs.kind = .function) (he1 : (x, instObj 102 dx) ∈ led) (he2 : (dx, dictOf [{ hash := PyData.keyHash w.params "instance", key := .str "instance" q1, val := .int inst t1 }, { hash := PyData.keyHash w.params "regional", key := .str "regional" q2, val := .ref rg }, { hash := PyData.keyHash w.params "cost", key := .str "cost" q3, val := .int cost t4 }, { hash := PyData.keyHash w.params "bridge_priority", key := .str "bridge_priority" q4, val := .int prio t5 }, { hash := PyData.keyHash w.params "port_priority", key := .str "port_priority" q5, val := .int port t6 }, { hash := PyData.keyHash w.params "hops", key := .str "hops" q6, val := .int hops t7 }, { hash := PyData.keyHash w.params "role", key := .str "role" q7, val := .str role t8 }, { hash := PyData.keyHash w.params "flags", key := .str "flags" q8, val := .ref fd }] 8) ∈ led) (he3 : (rg, tupO [.int low t2, .int mac t3]) ∈ led) (he4 : (fd, fD) ∈ led)
  (hD : fD.IsDictOf (strKind prg w) [("change", .bool f1), ("proposal", .bool f2), ("learning", .bool f3), ("forwarding", .bool f4), ("agreement", .bool f5)])
  (hd : κ.dp + 40 < recursionLimit) (hu : κ.un + 300 < cLine)
  (ret : ∀ (D T : Addr) (h' : Heap) (tk' : Nat), Fr h₀ κ.L h' m → News h₀ κ.L h' ((D, tupO [.int inst t1, .ref rg, .int cost t4, .int prio t5, .int port t6, .int hops t7, .str role t8, .ref T]) :: (T, tupO [.bool f1, .bool f2, .bool f3, .bool f4, .bool f5]) :: led) → Q (.ref D) { s with heap := h', toks := tk' }):
  wpAny (model prg w) (T1 κ) (call (.ref 99) [.ref x]) Q E s := (by exact use_of : Use _ (by
 first
 | (
  have N9 : News h₀ κ.L s.heap ((x, instObj 102 dx) :: (dx, dictOf [{ hash := PyData.keyHash w.params "instance", key := .str "instance" q1, val := .int inst t1 }, { hash := PyData.keyHash w.params "regional", key := .str "regional" q2, val := .ref rg }, { hash := PyData.keyHash w.params "cost", key := .str "cost" q3, val := .int cost t4 }, { hash := PyData.keyHash w.params "bridge_priority", key := .str "bridge_priority" q4, val := .int prio t5 }, { hash := PyData.keyHash w.params "port_priority", key := .str "port_priority" q5, val := .int port t6 }, { hash := PyData.keyHash w.params "hops", key := .str "hops" q6, val := .int hops t7 }, { hash := PyData.keyHash w.params "role", key := .str "role" q7, val := .str role t8 }, { hash := PyData.keyHash w.params "flags", key := .str "flags" q8, val := .ref fd }] 8) :: (rg, tupO [.int low t2, .int mac t3]) :: (fd, fD) :: led) := by
    intro p9 hp9
    simp only [List.mem_cons] at hp9
    rcases hp9 with rfl | rfl | rfl | rfl | hp9
    · exact N _ he1
    · exact N _ he2
    · exact N _ he3
    · exact N _ he4
    · exact N _ hp9
  clear N
  refine wpAny_call ?_
  k_dflt k_enter
  k_steps
  all_goals exact ret _ _ _ _ (by k_asm) (news_dt (by assumption) (by intro p9 hp9; repeat (first | exact hp9 | apply List.Mem.tail))))
 | fail))
theorem told {w : World} {p : Program} {loose : List Str} {mean : ExcName → Option Value} {mg mb : Str → Option Value}
  (dp un : Nat) (gd : Option (List Code)) (cn : Str) (cs : Scope) (a : Addr) (ccd : Value) (cl : List (Str × Addr)) (outer : List Env) (A₀ : Around) (base h₀ : Heap) (L : Addr) (m : Str → Option Value) (s : Shared) (Q E : Value → Shared → Prop)
  (led : Led) (x dx rg fd : Addr) (inst low mac cost prio port hops : Int) (t1 t2 t3 t4 t5 t6 t7 t8 : Tok) (role : Str) (q1 q2 q3 q4 q5 q6 q7 q8 : Tok) (fD : Obj) (f1 f2 f3 f4 f5 : Bool)
  (B : Below A₀ base outer h₀) (F : Fr h₀ L s.heap m) (X : (KH w.params).In h₀) (N : News h₀ L s.heap (led))
  (T : Top p loose mean mg mb h₀) (hk : cs.kind = .function) (he1 : (x, instObj 102 dx) ∈ led) (he2 : (dx, dictOf [{ hash := PyData.keyHash w.params "instance", key := .str "instance" q1, val := .int inst t1 }, { hash := PyData.keyHash w.params "regional", key := .str "regional" q2, val := .ref rg }, { hash := PyData.keyHash w.params "cost", key := .str "cost" q3, val := .int cost t4 }, { hash := PyData.keyHash w.params "bridge_priority", key := .str "bridge_priority" q4, val := .int prio t5 }, { hash := PyData.keyHash w.params "port_priority", key := .str "port_priority" q5, val := .int port t6 }, { hash := PyData.keyHash w.params "hops", key := .str "hops" q6, val := .int hops t7 }, { hash := PyData.keyHash w.params "role", key := .str "role" q7, val := .str role t8 }, { hash := PyData.keyHash w.params "flags", key := .str "flags" q8, val := .ref fd }] 8) ∈ led) (he3 : (rg, tupO [.int low t2, .int mac t3]) ∈ led) (he4 : (fd, fD) ∈ led)
  (hD : fD.IsDictOf (strKind prg w) [("change", .bool f1), ("proposal", .bool f2), ("learning", .bool f3), ("forwarding", .bool f4), ("agreement", .bool f5)])
  (hd : dp + 40 < recursionLimit) (hu : un + 300 < cLine)
  (ret : ∀ (D T : Addr) (h' : Heap) (tk' : Nat), Fr h₀ L h' m → News h₀ L h' ((D, tupO [.int inst t1, .ref rg, .int cost t4, .int prio t5, .int port t6, .int hops t7, .str role t8, .ref T]) :: (T, tupO [.bool f1, .bool f2, .bool f3, .bool f4, .bool f5]) :: led) → Q (.ref D) { s with heap := h', toks := tk' }):
  wpAny (model prg w) (ktrTop dp un gd cn cs L a ccd cl outer) (call (.ref 99) [.ref x]) Q E s :=
  told_in ⟨dp, un, gd, cn, cs, L, a, ccd, cl, outer⟩ A₀ base h₀ m s Q E led x dx rg fd inst low mac cost prio port hops t1 t2 t3 t4 t5 t6 t7 t8 role q1 q2 q3 q4 q5 q6 q7 q8 fD f1 f2 f3 f4 f5 B F X N T hk he1 he2 he3 he4 hD hd hu ret
theorem wdoL56 : True := by
  k_with "off L56" => skip
  trivial
end
section
set_option maxHeartbeats 800000
theorem wdsL32 : True := by
  k_with "newList" =>
    fail_if_success (k_extra "off L32")
    (k_here; k_dflt (refine' newList_L ?nl1 ?nl2 ?_; (case nl1 => k_asm); (case nl2 => k_asm); k_whole); intro l' h' F' o9 N' l1; (try k_lt l1); (try k_sweep))
  k_with "newTuple" =>
    fail_if_success (k_extra "off L32")
    (k_here; k_dflt (refine' newTuple_L ?nt1 ?nt2 ?_ ?nt3; (case nt1 => k_asm); (case nt2 => k_asm); (case nt3 => kmk_size)); intro D' h' F' o9 N' l1; (try k_lt l1); (try k_sweep))
  trivial
theorem num2_in {w : World} {p : Program} {loose : List Str} {mean : ExcName → Option Value} {mg mb : Str → Option Value}
  (κ : Cx) (A₀ : Around) (base h₀ : Heap) (m : Str → Option Value) (s : Shared) (Q E : Value → Shared → Prop)
  (rest : Led) (b : Array UInt8) (tb : Tok) (b0 b1 : Int)
  (B : Below A₀ base κ.outer h₀) (F : Fr h₀ κ.L s.heap m) (X : (KH w.params).In h₀) (N : News h₀ κ.L s.heap (rest))
  (T : Top p loose mean mg mb h₀) (hk : κ.cs.kind = .function) (hb : KBw.bInts b = [b0, b1])
  (hd : κ.dp + 8 < recursionLimit) (hu : κ.un + 64 < cLine)
  (ret : ∀ (t : Tok) (h' : Heap) (tk' : Nat), Fr h₀ κ.L h' m → News h₀ κ.L h' rest → Q (.int (b0 * 256 + b1) t) { s with heap := h', toks := tk' }):
  wpAny (model prg w) (T1 κ) (call (.ref (k_addr% "octets_number")) [.bytes b tb]) Q E s := (by exact use_of : Use _ (by
 first
 | (
  refine wpAny_call ?_
  k_dflt k_enter
  k_steps
  all_goals (subst_vars; refine cb_retI (fun t h' tk' F N => ret t h' tk' F N) (by omega) (by k_asm) (by refine cb_drop (by assumption) ?_; intro p9 hp9; repeat (first | exact hp9 | apply List.Mem.tail))))
 | fail))

theorem num2 {w : World} {p : Program} {loose : List Str} {mean : ExcName → Option Value} {mg mb : Str → Option Value}
  (dp un : Nat) (gd : Option (List Code)) (cn : Str) (cs : Scope) (a : Addr) (ccd : Value) (cl : List (Str × Addr)) (outer : List Env) (A₀ : Around) (base h₀ : Heap) (L : Addr) (m : Str → Option Value) (s : Shared) (Q E : Value → Shared → Prop)
  (rest : Led) (b : Array UInt8) (tb : Tok) (b0 b1 : Int)
  (B : Below A₀ base outer h₀) (F : Fr h₀ L s.heap m) (X : (KH w.params).In h₀) (N : News h₀ L s.heap (rest))
  (T : Top p loose mean mg mb h₀) (hk : cs.kind = .function) (hb : KBw.bInts b = [b0, b1])
  (hd : dp + 8 < recursionLimit) (hu : un + 64 < cLine)
  (ret : ∀ (t : Tok) (h' : Heap) (tk' : Nat), Fr h₀ L h' m → News h₀ L h' rest → Q (.int (b0 * 256 + b1) t) { s with heap := h', toks := tk' }):
  wpAny (model prg w) (ktrTop dp un gd cn cs L a ccd cl outer) (call (.ref (k_addr% "octets_number")) [.bytes b tb]) Q E s :=
  num2_in ⟨dp, un, gd, cn, cs, L, a, ccd, cl, outer⟩ A₀ base h₀ m s Q E rest b tb b0 b1 B F X N T hk hb hd hu ret
theorem num4_in {w : World} {p : Program} {loose : List Str} {mean : ExcName → Option Value} {mg mb : Str → Option Value}
  (κ : Cx) (A₀ : Around) (base h₀ : Heap) (m : Str → Option Value) (s : Shared) (Q E : Value → Shared → Prop)
  (rest : Led) (b : Array UInt8) (tb : Tok) (b0 b1 b2 b3 : Int)
  (B : Below A₀ base κ.outer h₀) (F : Fr h₀ κ.L s.heap m) (X : (KH w.params).In h₀) (N : News h₀ κ.L s.heap (rest))
  (T : Top p loose mean mg mb h₀) (hk : κ.cs.kind = .function) (hb : KBw.bInts b = [b0, b1, b2, b3])
  (hd : κ.dp + 8 < recursionLimit) (hu : κ.un + 64 < cLine)
  (ret : ∀ (t : Tok) (h' : Heap) (tk' : Nat), Fr h₀ κ.L h' m → News h₀ κ.L h' rest → Q (.int (b0 * 16777216 + b1 * 65536 + b2 * 256 + b3) t) { s with heap := h', toks := tk' }):
  wpAny (model prg w) (T1 κ) (call (.ref (k_addr% "octets_number")) [.bytes b tb]) Q E s := (by exact use_of : Use _ (by
 first
 | (
  refine wpAny_call ?_
  k_dflt k_enter
  k_steps
  all_goals (subst_vars; refine cb_retI (fun t h' tk' F N => ret t h' tk' F N) (by omega) (by k_asm) (by refine cb_drop (by assumption) ?_; intro p9 hp9; repeat (first | exact hp9 | apply List.Mem.tail))))
 | fail))

theorem num4 {w : World} {p : Program} {loose : List Str} {mean : ExcName → Option Value} {mg mb : Str → Option Value}
  (dp un : Nat) (gd : Option (List Code)) (cn : Str) (cs : Scope) (a : Addr) (ccd : Value) (cl : List (Str × Addr)) (outer : List Env) (A₀ : Around) (base h₀ : Heap) (L : Addr) (m : Str → Option Value) (s : Shared) (Q E : Value → Shared → Prop)
  (rest : Led) (b : Array UInt8) (tb : Tok) (b0 b1 b2 b3 : Int)
  (B : Below A₀ base outer h₀) (F : Fr h₀ L s.heap m) (X : (KH w.params).In h₀) (N : News h₀ L s.heap (rest))
  (T : Top p loose mean mg mb h₀) (hk : cs.kind = .function) (hb : KBw.bInts b = [b0, b1, b2, b3])
  (hd : dp + 8 < recursionLimit) (hu : un + 64 < cLine)
  (ret : ∀ (t : Tok) (h' : Heap) (tk' : Nat), Fr h₀ L h' m → News h₀ L h' rest → Q (.int (b0 * 16777216 + b1 * 65536 + b2 * 256 + b3) t) { s with heap := h', toks := tk' }):
  wpAny (model prg w) (ktrTop dp un gd cn cs L a ccd cl outer) (call (.ref (k_addr% "octets_number")) [.bytes b tb]) Q E s :=
  num4_in ⟨dp, un, gd, cn, cs, L, a, ccd, cl, outer⟩ A₀ base h₀ m s Q E rest b tb b0 b1 b2 b3 B F X N T hk hb hd hu ret
theorem num6_in {w : World} {p : Program} {loose : List Str} {mean : ExcName → Option Value} {mg mb : Str → Option Value}
  (κ : Cx) (A₀ : Around) (base h₀ : Heap) (m : Str → Option Value) (s : Shared) (Q E : Value → Shared → Prop)
  (rest : Led) (b : Array UInt8) (tb : Tok) (b0 b1 b2 b3 b4 b5 : Int)
  (B : Below A₀ base κ.outer h₀) (F : Fr h₀ κ.L s.heap m) (X : (KH w.params).In h₀) (N : News h₀ κ.L s.heap (rest))
  (T : Top p loose mean mg mb h₀) (hk : κ.cs.kind = .function) (hb : KBw.bInts b = [b0, b1, b2, b3, b4, b5])
  (hd : κ.dp + 8 < recursionLimit) (hu : κ.un + 64 < cLine)
  (ret : ∀ (t : Tok) (h' : Heap) (tk' : Nat), Fr h₀ κ.L h' m → News h₀ κ.L h' rest → Q (.int (b0 * 1099511627776 + b1 * 4294967296 + b2 * 16777216 + b3 * 65536 + b4 * 256 + b5) t) { s with heap := h', toks := tk' }):
  wpAny (model prg w) (T1 κ) (call (.ref (k_addr% "octets_number")) [.bytes b tb]) Q E s := (by exact use_of : Use _ (by
 first
 | (
  refine wpAny_call ?_
  k_dflt k_enter
  k_steps
  all_goals (subst_vars; refine cb_retI (fun t h' tk' F N => ret t h' tk' F N) (by omega) (by k_asm) (by refine cb_drop (by assumption) ?_; intro p9 hp9; repeat (first | exact hp9 | apply List.Mem.tail))))
 | fail))
theorem num6 {w : World} {p : Program} {loose : List Str} {mean : ExcName → Option Value} {mg mb : Str → Option Value}
  (dp un : Nat) (gd : Option (List Code)) (cn : Str) (cs : Scope) (a : Addr) (ccd : Value) (cl : List (Str × Addr)) (outer : List Env) (A₀ : Around) (base h₀ : Heap) (L : Addr) (m : Str → Option Value) (s : Shared) (Q E : Value → Shared → Prop)
  (rest : Led) (b : Array UInt8) (tb : Tok) (b0 b1 b2 b3 b4 b5 : Int)
  (B : Below A₀ base outer h₀) (F : Fr h₀ L s.heap m) (X : (KH w.params).In h₀) (N : News h₀ L s.heap (rest))
  (T : Top p loose mean mg mb h₀) (hk : cs.kind = .function) (hb : KBw.bInts b = [b0, b1, b2, b3, b4, b5])
  (hd : dp + 8 < recursionLimit) (hu : un + 64 < cLine)
  (ret : ∀ (t : Tok) (h' : Heap) (tk' : Nat), Fr h₀ L h' m → News h₀ L h' rest → Q (.int (b0 * 1099511627776 + b1 * 4294967296 + b2 * 16777216 + b3 * 65536 + b4 * 256 + b5) t) { s with heap := h', toks := tk' }):
  wpAny (model prg w) (ktrTop dp un gd cn cs L a ccd cl outer) (call (.ref (k_addr% "octets_number")) [.bytes b tb]) Q E s :=
  num6_in ⟨dp, un, gd, cn, cs, L, a, ccd, cl, outer⟩ A₀ base h₀ m s Q E rest b tb b0 b1 b2 b3 b4 b5 B F X N T hk hb hd hu ret
theorem wdoL32 : True := by
  k_with "off L32" => skip
  trivial
end
section
set_option maxHeartbeats 800000
theorem wdsL52 : True := by
  k_with "getMethod type:Exception" =>
    fail_if_success (k_extra "off L52")
    ((k_here; refine' method_type ?z1144F ?z1144X ?z1144m (by decide +kernel) ?z1144e ?z1144h ?_; (case z1144F => k_asm); (case z1144X => k_asm); (case z1144m => exact exc_meta); (case z1144e => k_dflt k_is); (case z1144h => k_handed)))
  k_with "call builtin:Exception.__init__" =>
    fail_if_success (k_extra "off L52")
    ((k_here; (refine' size_init ?z6371F ?z6371N ?z6371n ?z6371X ?_; (case z6371F => k_asm); (case z6371N => k_asm); (case z6371n => assumption); (case z6371X => k_asm); k_whole); intro t' h' F' N' ne' nt'; (try dsimp only)))
  k_with "setAttr ref" =>
    fail_if_success (k_extra "off L52")
    ((k_here; (with_reducible show wpAny _ _ (setAttr (Value.ref _) ("message" : Str) _) _ _ _); (refine' size_store ?z3836F ?z3836N ?z3836n ?z3836X ?_; (case z3836F => k_asm); (case z3836N => k_asm); (case z3836n => assumption); (case z3836X => k_asm); k_whole); intro dx' h' tk' F' N'; (try dsimp only)))
  k_with "exec Raise some none" =>
    fail_if_success (k_extra "off L52")
    ((k_here; (with_reducible show wpAny _ _ (exec (Stmt.Raise (some (Expr.Call (Expr.Name ("SizeError" : Str) _) (_ :: _) [] _)) none _) _) _ _ _); k_dflt (refine' size_raise ?z1466B ?z1466F ?z1466X ?z1466T ?z1466hd ?z1466hu ?z1466hA ?_ ?z1466a ?z1466b ?z1466c ?z1466d; (case z1466hA => rfl); (case z1466B => assumption); (case z1466F => k_asm); (case z1466X => k_asm); (case z1466T => k_asm); (case z1466hd => ktr_room); (case z1466hu => ktr_room); (case z1466a => first | with_reducible exact star_bin | rfl); (case z1466b => rfl); (case z1466c => rfl); (case z1466d => rfl); k_whole)))
  k_with "SizeEnd" =>
    fail_if_success (k_extra "off L52")
    ((k_here; (refine' SizeEnd.intro ?z358F ?z358N ?_; (case z358F => k_asm); (case z358N => k_asm)); intro e' t' dx' h' tk' F' N' ne'; (try dsimp only)))
  k_with "leaving ref" =>
    fail_if_success (k_extra "off L52")
    ((k_here; first
      | (refine' leave_on ?z8181K ?z8181F ?z8181R ?z8181U ?_ ?z8181f; (case z8181R => assumption); (case z8181K => assumption); (case z8181F => assumption); (case z8181U => assumption); (case z8181f => rfl); k_whole; intro h' R' U'; (try dsimp only at R' U' ⊢))
      | (refine' leave_size ?z8181K ?z8181F ?z8181N ?z8181n ?_ ?z8181f ?z8181h; (case z8181K => assumption); (case z8181F => k_asm); (case z8181N => k_asm); (case z8181n => assumption); (case z8181f => rfl); (case z8181h => first | rfl | assumption); k_whole; intro h' R' U'; (try dsimp only at R' U' ⊢))))
  k_with "compareOp NotIn str ref" =>
    fail_if_success (k_extra "off L52")
    ((k_here; (with_reducible show wpAny _ _ (compareOp CmpOp.NotIn (Value.str _ _) (Value.ref 73)) _ _ _); (refine' role_notin ?z9558X ?_; (case z9558X => k_in); k_whole)))
  k_with "call ref" =>
    fail_if_success (k_extra "off L52")
    ((k_here; (with_reducible show wpAny _ _ (call (Value.ref 51) [Value.int _ _, Value.int 1 _]) _ _ _); k_dflt (focus (refine' oct1 _ _ _ _ _ _ _ _ _ _ _ _ _ _ _ _ _ _ _ _ _ ?z1596cB ?z1596cF ?z1596cX ?z1596cN ?z1596cT ?z1596cK  ?z1596cd ?z1596cu (fun k0' k1' b' t' h' tk' hb' F' N' => ?_) (fun h9' e' t' vs' g2' h' tk' F' U' R' => ?_); (case z1596cF => k_asm); (case z1596cB => k_asm); (case z1596cX => k_asm); (case z1596cN => k_asm); (case z1596cT => k_asm); (case z1596cK => first | exact rfl | assumption);  (case z1596cd => ktr_room); (case z1596cu => ktr_room); all_goals (try dsimp only)))))
  k_with "call ref" =>
    fail_if_success (k_extra "off L52")
    ((k_here; (with_reducible show wpAny _ _ (call (Value.ref 51) [Value.int _ _, Value.int 2 _]) _ _ _); k_dflt (focus (refine' oct2 _ _ _ _ _ _ _ _ _ _ _ _ _ _ _ _ _ _ _ _ _ ?z4531cB ?z4531cF ?z4531cX ?z4531cN ?z4531cT ?z4531cK  ?z4531cd ?z4531cu (fun k0' k1' b' t' h' tk' hb' F' N' => ?_) (fun h9' e' t' vs' g2' h' tk' F' U' R' => ?_); (case z4531cF => k_asm); (case z4531cB => k_asm); (case z4531cX => k_asm); (case z4531cN => k_asm); (case z4531cT => k_asm); (case z4531cK => first | exact rfl | assumption);  (case z4531cd => ktr_room); (case z4531cu => ktr_room); all_goals (try dsimp only)))))
  k_with "call ref" =>
    fail_if_success (k_extra "off L52")
    ((k_here; (with_reducible show wpAny _ _ (call (Value.ref 51) [Value.int _ _, Value.int 4 _]) _ _ _); k_dflt (focus (refine' oct4 _ _ _ _ _ _ _ _ _ _ _ _ _ _ _ _ _ _ _ _ _ ?z5016cB ?z5016cF ?z5016cX ?z5016cN ?z5016cT ?z5016cK  ?z5016cd ?z5016cu (fun k0' k1' b' t' h' tk' hb' F' N' => ?_) (fun h9' e' t' vs' g2' h' tk' F' U' R' => ?_); (case z5016cF => k_asm); (case z5016cB => k_asm); (case z5016cX => k_asm); (case z5016cN => k_asm); (case z5016cT => k_asm); (case z5016cK => first | exact rfl | assumption);  (case z5016cd => ktr_room); (case z5016cu => ktr_room); all_goals (try dsimp only)))))
  k_with "call ref" =>
    fail_if_success (k_extra "off L52")
    ((k_here; (with_reducible show wpAny _ _ (call (Value.ref 51) [Value.int _ _, Value.int 6 _]) _ _ _); k_dflt (focus (refine' oct6 _ _ _ _ _ _ _ _ _ _ _ _ _ _ _ _ _ _ _ _ _ ?z2799cB ?z2799cF ?z2799cX ?z2799cN ?z2799cT ?z2799cK  ?z2799cd ?z2799cu (fun k0' k1' b' t' h' tk' hb' F' N' => ?_) (fun h9' e' t' vs' g2' h' tk' F' U' R' => ?_); (case z2799cF => k_asm); (case z2799cB => k_asm); (case z2799cX => k_asm); (case z2799cN => k_asm); (case z2799cT => k_asm); (case z2799cK => first | exact rfl | assumption);  (case z2799cd => ktr_room); (case z2799cu => ktr_room); all_goals (try dsimp only)))))
  k_with "call ref" =>
    fail_if_success (k_extra "off L52")
    ((k_here; (with_reducible show wpAny _ _ (call (Value.ref (k_addr% "_law_big")) [Value.int _ _, Value.int 2 _]) _ _ _); k_dflt (focus (refine' big2 _ _ _ _ _ _ _ _ _ _ _ _ _ _ _ _ _ _ _ _ _ ?z551cB ?z551cF ?z551cX ?z551cN ?z551cT ?z551cK ?z551k0 ?z551k1 ?z551cd ?z551cu (fun b' t' h' tk' hb' F' N' => ?_); (case z551cF => k_asm); (case z551cB => k_asm); (case z551cX => k_asm); (case z551cN => k_asm); (case z551cT => k_asm); (case z551cK => first | exact rfl | assumption); (case z551k0 => omega); (case z551k1 => omega); (case z551cd => ktr_room); (case z551cu => ktr_room); all_goals (try dsimp only)))))
  k_with "call ref" =>
    fail_if_success (k_extra "off L52")
    ((k_here; (with_reducible show wpAny _ _ (call (Value.ref (k_addr% "_law_big")) [Value.int _ _, Value.int 4 _]) _ _ _); k_dflt (focus (refine' big4 _ _ _ _ _ _ _ _ _ _ _ _ _ _ _ _ _ _ _ _ _ ?z4165cB ?z4165cF ?z4165cX ?z4165cN ?z4165cT ?z4165cK ?z4165k0 ?z4165k1 ?z4165cd ?z4165cu (fun b' t' h' tk' hb' F' N' => ?_); (case z4165cF => k_asm); (case z4165cB => k_asm); (case z4165cX => k_asm); (case z4165cN => k_asm); (case z4165cT => k_asm); (case z4165cK => first | exact rfl | assumption); (case z4165k0 => omega); (case z4165k1 => omega); (case z4165cd => ktr_room); (case z4165cu => ktr_room); all_goals (try dsimp only)))))
  k_with "call ref" =>
    fail_if_success (k_extra "off L52")
    ((k_here; (with_reducible show wpAny _ _ (call (Value.ref (k_addr% "_law_big")) [Value.int _ _, Value.int 6 _]) _ _ _); k_dflt (focus (refine' big6 _ _ _ _ _ _ _ _ _ _ _ _ _ _ _ _ _ _ _ _ _ ?z1573cB ?z1573cF ?z1573cX ?z1573cN ?z1573cT ?z1573cK ?z1573k0 ?z1573k1 ?z1573cd ?z1573cu (fun b' t' h' tk' hb' F' N' => ?_); (case z1573cF => k_asm); (case z1573cB => k_asm); (case z1573cX => k_asm); (case z1573cN => k_asm); (case z1573cT => k_asm); (case z1573cK => first | exact rfl | assumption); (case z1573k0 => omega); (case z1573k1 => omega); (case z1573cd => ktr_room); (case z1573cu => ktr_room); all_goals (try dsimp only)))))
  k_with "call ref" =>
    fail_if_success (k_extra "off L52")
    ((k_here; (with_reducible show wpAny _ _ (call (Value.ref (k_addr% "octets_number")) [Value.bytes _ _]) _ _ _); k_dflt (focus (refine' num2 _ _ _ _ _ _ _ _ _ _ _ _ _ _ _ _ _ _ _ _ _ _ ?z4632cB ?z4632cF ?z4632cX ?z4632cN ?z4632cT ?z4632cK ?z4632hb ?z4632cd ?z4632cu (fun t' h' tk' F' N' => ?_); (case z4632cF => k_asm); (case z4632cB => k_asm); (case z4632cX => k_asm); (case z4632cN => k_asm); (case z4632cT => k_asm); (case z4632cK => first | exact rfl | assumption); (case z4632hb => assumption); (case z4632cd => ktr_room); (case z4632cu => ktr_room); all_goals (try dsimp only)))))
  k_with "call ref" =>
    fail_if_success (k_extra "off L52")
    ((k_here; (with_reducible show wpAny _ _ (call (Value.ref (k_addr% "octets_number")) [Value.bytes _ _]) _ _ _); k_dflt (focus (refine' num4 _ _ _ _ _ _ _ _ _ _ _ _ _ _ _ _ _ _ _ _ _ _ _ _ ?z6683cB ?z6683cF ?z6683cX ?z6683cN ?z6683cT ?z6683cK ?z6683hb ?z6683cd ?z6683cu (fun t' h' tk' F' N' => ?_); (case z6683cF => k_asm); (case z6683cB => k_asm); (case z6683cX => k_asm); (case z6683cN => k_asm); (case z6683cT => k_asm); (case z6683cK => first | exact rfl | assumption); (case z6683hb => assumption); (case z6683cd => ktr_room); (case z6683cu => ktr_room); all_goals (try dsimp only)))))
  k_with "call ref" =>
    fail_if_success (k_extra "off L52")
    ((k_here; (with_reducible show wpAny _ _ (call (Value.ref (k_addr% "octets_number")) [Value.bytes _ _]) _ _ _); k_dflt (focus (refine' num6 _ _ _ _ _ _ _ _ _ _ _ _ _ _ _ _ _ _ _ _ _ _ _ _ _ _ ?z9845cB ?z9845cF ?z9845cX ?z9845cN ?z9845cT ?z9845cK ?z9845hb ?z9845cd ?z9845cu (fun t' h' tk' F' N' => ?_); (case z9845cF => k_asm); (case z9845cB => k_asm); (case z9845cX => k_asm); (case z9845cN => k_asm); (case z9845cT => k_asm); (case z9845cK => first | exact rfl | assumption); (case z9845hb => assumption); (case z9845cd => ktr_room); (case z9845cu => ktr_room); all_goals (try dsimp only)))))
  trivial
theorem bridge_in {w : World} {p : Program} {loose : List Str} {mean : ExcName → Option Value} {mg mb : Str → Option Value}
  (κ : Cx) (A₀ : Around) (base h₀ : Heap) (m : Str → Option Value) (s : Shared) (Q E : Value → Shared → Prop)
  (led : Led) (br : Addr) (low mac : Int) (t2 t3 : Tok)
  (B : Below A₀ base κ.outer h₀) (F : Fr h₀ κ.L s.heap m) (X : (KH w.params).In h₀) (N : News h₀ κ.L s.heap (led))
  (T : Top p loose mean mg mb h₀) (hk : κ.cs.kind = .function) (he1 : (br, tupO [.int low t2, .int mac t3]) ∈ led)
  (hd : κ.dp + 40 < recursionLimit) (hu : κ.un + 300 < cLine)
  (ret : 0 ≤ low → low < 65536 → 0 ≤ mac → mac < 281474976710656 → ∀ (b : Array UInt8) (t : Tok) (h' : Heap) (tk' : Nat), KBw.bInts b = [low / 256 % 256, low % 256, mac / 1099511627776 % 256, mac / 4294967296 % 256, mac / 16777216 % 256, mac / 65536 % 256, mac / 256 % 256, mac % 256] → Fr h₀ κ.L h' m → News h₀ κ.L h' led → Q (.bytes b t) { s with heap := h', toks := tk' })
  (err : ¬((0 ≤ low ∧ low < 65536) ∧ 0 ≤ mac ∧ mac < 281474976710656) → ∀ (e t : Addr) (vs : List Value) (g₂ h' : Heap) (tk' : Nat), Fr h₀ κ.L g₂ m → g₂.UpToSlots h' → RaisedS base g₂ (envX κ.cn κ.cs κ.L κ.a κ.ccd κ.cl :: κ.outer) e (.ref 44) t vs led h' → E (.ref e) { s with heap := h', toks := tk' }):
  wpAny (model prg w) (T1 κ) (call (.ref (k_addr% "bridge_octets")) [.ref br]) Q E s := (by exact use_of : Use _ (by
 first
 | (
  have N9 : News h₀ κ.L s.heap ((br, tupO [.int low t2, .int mac t3]) :: led) := by
    intro p9 hp9
    rcases List.mem_cons.mp hp9 with rfl | hp9
    · exact N _ he1
    · exact N _ hp9
  clear N
  refine wpAny_call ?_
  k_dflt k_enter
  k_steps
  all_goals first
    | exact ret (by omega) (by omega) (by omega) (by omega) _ _ _ _ (by assumption) (by k_asm) (by refine cb_drop (by assumption) ?_; intro p9 hp9; repeat (first | exact hp9 | apply List.Mem.tail))
    | exact err (by omega) _ _ _ _ _ _ (by assumption) (by assumption) (raised_sub (by assumption) (by intro p9 hp9; repeat (first | exact hp9 | apply List.Mem.tail))))
 | fail))
theorem bridge {w : World} {p : Program} {loose : List Str} {mean : ExcName → Option Value} {mg mb : Str → Option Value}
  (dp un : Nat) (gd : Option (List Code)) (cn : Str) (cs : Scope) (a : Addr) (ccd : Value) (cl : List (Str × Addr)) (outer : List Env) (A₀ : Around) (base h₀ : Heap) (L : Addr) (m : Str → Option Value) (s : Shared) (Q E : Value → Shared → Prop)
  (led : Led) (br : Addr) (low mac : Int) (t2 t3 : Tok)
  (B : Below A₀ base outer h₀) (F : Fr h₀ L s.heap m) (X : (KH w.params).In h₀) (N : News h₀ L s.heap (led))
  (T : Top p loose mean mg mb h₀) (hk : cs.kind = .function) (he1 : (br, tupO [.int low t2, .int mac t3]) ∈ led)
  (hd : dp + 40 < recursionLimit) (hu : un + 300 < cLine)
  (ret : 0 ≤ low → low < 65536 → 0 ≤ mac → mac < 281474976710656 → ∀ (b : Array UInt8) (t : Tok) (h' : Heap) (tk' : Nat), KBw.bInts b = [low / 256 % 256, low % 256, mac / 1099511627776 % 256, mac / 4294967296 % 256, mac / 16777216 % 256, mac / 65536 % 256, mac / 256 % 256, mac % 256] → Fr h₀ L h' m → News h₀ L h' led → Q (.bytes b t) { s with heap := h', toks := tk' })
  (err : ¬((0 ≤ low ∧ low < 65536) ∧ 0 ≤ mac ∧ mac < 281474976710656) → ∀ (e t : Addr) (vs : List Value) (g₂ h' : Heap) (tk' : Nat), Fr h₀ L g₂ m → g₂.UpToSlots h' → RaisedS base g₂ (envX cn cs L a ccd cl :: outer) e (.ref 44) t vs led h' → E (.ref e) { s with heap := h', toks := tk' }):
  wpAny (model prg w) (ktrTop dp un gd cn cs L a ccd cl outer) (call (.ref (k_addr% "bridge_octets")) [.ref br]) Q E s :=
  bridge_in ⟨dp, un, gd, cn, cs, L, a, ccd, cl, outer⟩ A₀ base h₀ m s Q E led br low mac t2 t3 B F X N T hk he1 hd hu ret err
theorem wdoL52 : True := by
  k_with "off L52" => skip
  trivial
end
section
set_option maxHeartbeats 4000000
theorem wdsL58 : True := by
  k_with "getMethod type:Exception" =>
    fail_if_success (k_extra "off L58")
    ((k_here; refine' method_type ?z1144F ?z1144X ?z1144m (by decide +kernel) ?z1144e ?z1144h ?_; (case z1144F => k_asm); (case z1144X => k_asm); (case z1144m => exact exc_meta); (case z1144e => k_dflt k_is); (case z1144h => k_handed)))
  k_with "call builtin:Exception.__init__" =>
    fail_if_success (k_extra "off L58")
    ((k_here; (refine' size_init ?z6371F ?z6371N ?z6371n ?z6371X ?_; (case z6371F => k_asm); (case z6371N => k_asm); (case z6371n => assumption); (case z6371X => k_asm); k_whole); intro t' h' F' N' ne' nt'; (try dsimp only)))
  k_with "setAttr ref" =>
    fail_if_success (k_extra "off L58")
    ((k_here; (with_reducible show wpAny _ _ (setAttr (Value.ref _) ("message" : Str) _) _ _ _); (refine' size_store ?z3836F ?z3836N ?z3836n ?z3836X ?_; (case z3836F => k_asm); (case z3836N => k_asm); (case z3836n => assumption); (case z3836X => k_asm); k_whole); intro dx' h' tk' F' N'; (try dsimp only)))
  k_with "exec Raise some none" =>
    fail_if_success (k_extra "off L58")
    ((k_here; (with_reducible show wpAny _ _ (exec (Stmt.Raise (some (Expr.Call (Expr.Name ("SizeError" : Str) _) (_ :: _) [] _)) none _) _) _ _ _); k_dflt (refine' size_raise ?z1466B ?z1466F ?z1466X ?z1466T ?z1466hd ?z1466hu ?z1466hA ?_ ?z1466a ?z1466b ?z1466c ?z1466d; (case z1466hA => rfl); (case z1466B => assumption); (case z1466F => k_asm); (case z1466X => k_asm); (case z1466T => k_asm); (case z1466hd => ktr_room); (case z1466hu => ktr_room); (case z1466a => first | with_reducible exact star_bin | rfl); (case z1466b => rfl); (case z1466c => rfl); (case z1466d => rfl); k_whole)))
  k_with "SizeEnd" =>
    fail_if_success (k_extra "off L58")
    ((k_here; (refine' SizeEnd.intro ?z358F ?z358N ?_; (case z358F => k_asm); (case z358N => k_asm)); intro e' t' dx' h' tk' F' N' ne'; (try dsimp only)))
  k_with "leaving ref" =>
    fail_if_success (k_extra "off L58")
    ((k_here; first
      | (refine' leave_on ?z8181K ?z8181F ?z8181R ?z8181U ?_ ?z8181f; (case z8181R => assumption); (case z8181K => assumption); (case z8181F => assumption); (case z8181U => assumption); (case z8181f => rfl); k_whole; intro h' R' U'; (try dsimp only at R' U' ⊢))
      | (refine' leave_size ?z8181K ?z8181F ?z8181N ?z8181n ?_ ?z8181f ?z8181h; (case z8181K => assumption); (case z8181F => k_asm); (case z8181N => k_asm); (case z8181n => assumption); (case z8181f => rfl); (case z8181h => first | rfl | assumption); k_whole; intro h' R' U'; (try dsimp only at R' U' ⊢))))
  k_with "compareOp NotIn str ref" =>
    fail_if_success (k_extra "off L58")
    ((k_here; (with_reducible show wpAny _ _ (compareOp CmpOp.NotIn (Value.str _ _) (Value.ref 73)) _ _ _); (refine' role_notin ?z9558X ?_; (case z9558X => k_in); k_whole)))
  k_with "call ref" =>
    fail_if_success (k_extra "off L58")
    ((k_here; (with_reducible show wpAny _ _ (call (Value.ref 51) [Value.int _ _, Value.int 1 _]) _ _ _); k_dflt (focus (refine' oct1 _ _ _ _ _ _ _ _ _ _ _ _ _ _ _ _ _ _ _ _ _ ?z1596cB ?z1596cF ?z1596cX ?z1596cN ?z1596cT ?z1596cK  ?z1596cd ?z1596cu (fun k0' k1' b' t' h' tk' hb' F' N' => ?_) (fun h9' e' t' vs' g2' h' tk' F' U' R' => ?_); (case z1596cF => k_asm); (case z1596cB => k_asm); (case z1596cX => k_asm); (case z1596cN => k_asm); (case z1596cT => k_asm); (case z1596cK => first | exact rfl | assumption);  (case z1596cd => ktr_room); (case z1596cu => ktr_room); all_goals (try dsimp only)))))
  k_with "call ref" =>
    fail_if_success (k_extra "off L58")
    ((k_here; (with_reducible show wpAny _ _ (call (Value.ref 51) [Value.int _ _, Value.int 2 _]) _ _ _); k_dflt (focus (refine' oct2 _ _ _ _ _ _ _ _ _ _ _ _ _ _ _ _ _ _ _ _ _ ?z4531cB ?z4531cF ?z4531cX ?z4531cN ?z4531cT ?z4531cK  ?z4531cd ?z4531cu (fun k0' k1' b' t' h' tk' hb' F' N' => ?_) (fun h9' e' t' vs' g2' h' tk' F' U' R' => ?_); (case z4531cF => k_asm); (case z4531cB => k_asm); (case z4531cX => k_asm); (case z4531cN => k_asm); (case z4531cT => k_asm); (case z4531cK => first | exact rfl | assumption);  (case z4531cd => ktr_room); (case z4531cu => ktr_room); all_goals (try dsimp only)))))
  k_with "call ref" =>
    fail_if_success (k_extra "off L58")
    ((k_here; (with_reducible show wpAny _ _ (call (Value.ref 51) [Value.int _ _, Value.int 4 _]) _ _ _); k_dflt (focus (refine' oct4 _ _ _ _ _ _ _ _ _ _ _ _ _ _ _ _ _ _ _ _ _ ?z5016cB ?z5016cF ?z5016cX ?z5016cN ?z5016cT ?z5016cK  ?z5016cd ?z5016cu (fun k0' k1' b' t' h' tk' hb' F' N' => ?_) (fun h9' e' t' vs' g2' h' tk' F' U' R' => ?_); (case z5016cF => k_asm); (case z5016cB => k_asm); (case z5016cX => k_asm); (case z5016cN => k_asm); (case z5016cT => k_asm); (case z5016cK => first | exact rfl | assumption);  (case z5016cd => ktr_room); (case z5016cu => ktr_room); all_goals (try dsimp only)))))
  k_with "call ref" =>
    fail_if_success (k_extra "off L58")
    ((k_here; (with_reducible show wpAny _ _ (call (Value.ref 51) [Value.int _ _, Value.int 6 _]) _ _ _); k_dflt (focus (refine' oct6 _ _ _ _ _ _ _ _ _ _ _ _ _ _ _ _ _ _ _ _ _ ?z2799cB ?z2799cF ?z2799cX ?z2799cN ?z2799cT ?z2799cK  ?z2799cd ?z2799cu (fun k0' k1' b' t' h' tk' hb' F' N' => ?_) (fun h9' e' t' vs' g2' h' tk' F' U' R' => ?_); (case z2799cF => k_asm); (case z2799cB => k_asm); (case z2799cX => k_asm); (case z2799cN => k_asm); (case z2799cT => k_asm); (case z2799cK => first | exact rfl | assumption);  (case z2799cd => ktr_room); (case z2799cu => ktr_room); all_goals (try dsimp only)))))
  k_with "call ref" =>
    fail_if_success (k_extra "off L58")
    ((k_here; (with_reducible show wpAny _ _ (call (Value.ref (k_addr% "_law_big")) [Value.int _ _, Value.int 2 _]) _ _ _); k_dflt (focus (refine' big2 _ _ _ _ _ _ _ _ _ _ _ _ _ _ _ _ _ _ _ _ _ ?z551cB ?z551cF ?z551cX ?z551cN ?z551cT ?z551cK ?z551k0 ?z551k1 ?z551cd ?z551cu (fun b' t' h' tk' hb' F' N' => ?_); (case z551cF => k_asm); (case z551cB => k_asm); (case z551cX => k_asm); (case z551cN => k_asm); (case z551cT => k_asm); (case z551cK => first | exact rfl | assumption); (case z551k0 => omega); (case z551k1 => omega); (case z551cd => ktr_room); (case z551cu => ktr_room); all_goals (try dsimp only)))))
  k_with "call ref" =>
    fail_if_success (k_extra "off L58")
    ((k_here; (with_reducible show wpAny _ _ (call (Value.ref (k_addr% "_law_big")) [Value.int _ _, Value.int 4 _]) _ _ _); k_dflt (focus (refine' big4 _ _ _ _ _ _ _ _ _ _ _ _ _ _ _ _ _ _ _ _ _ ?z4165cB ?z4165cF ?z4165cX ?z4165cN ?z4165cT ?z4165cK ?z4165k0 ?z4165k1 ?z4165cd ?z4165cu (fun b' t' h' tk' hb' F' N' => ?_); (case z4165cF => k_asm); (case z4165cB => k_asm); (case z4165cX => k_asm); (case z4165cN => k_asm); (case z4165cT => k_asm); (case z4165cK => first | exact rfl | assumption); (case z4165k0 => omega); (case z4165k1 => omega); (case z4165cd => ktr_room); (case z4165cu => ktr_room); all_goals (try dsimp only)))))
  k_with "call ref" =>
    fail_if_success (k_extra "off L58")
    ((k_here; (with_reducible show wpAny _ _ (call (Value.ref (k_addr% "_law_big")) [Value.int _ _, Value.int 6 _]) _ _ _); k_dflt (focus (refine' big6 _ _ _ _ _ _ _ _ _ _ _ _ _ _ _ _ _ _ _ _ _ ?z1573cB ?z1573cF ?z1573cX ?z1573cN ?z1573cT ?z1573cK ?z1573k0 ?z1573k1 ?z1573cd ?z1573cu (fun b' t' h' tk' hb' F' N' => ?_); (case z1573cF => k_asm); (case z1573cB => k_asm); (case z1573cX => k_asm); (case z1573cN => k_asm); (case z1573cT => k_asm); (case z1573cK => first | exact rfl | assumption); (case z1573k0 => omega); (case z1573k1 => omega); (case z1573cd => ktr_room); (case z1573cu => ktr_room); all_goals (try dsimp only)))))
  k_with "call ref" =>
    fail_if_success (k_extra "off L58")
    ((k_here; (with_reducible show wpAny _ _ (call (Value.ref (k_addr% "octets_number")) [Value.bytes _ _]) _ _ _); k_dflt (focus (refine' num2 _ _ _ _ _ _ _ _ _ _ _ _ _ _ _ _ _ _ _ _ _ _ ?z4632cB ?z4632cF ?z4632cX ?z4632cN ?z4632cT ?z4632cK ?z4632hb ?z4632cd ?z4632cu (fun t' h' tk' F' N' => ?_); (case z4632cF => k_asm); (case z4632cB => k_asm); (case z4632cX => k_asm); (case z4632cN => k_asm); (case z4632cT => k_asm); (case z4632cK => first | exact rfl | assumption); (case z4632hb => assumption); (case z4632cd => ktr_room); (case z4632cu => ktr_room); all_goals (try dsimp only)))))
  k_with "call ref" =>
    fail_if_success (k_extra "off L58")
    ((k_here; (with_reducible show wpAny _ _ (call (Value.ref (k_addr% "octets_number")) [Value.bytes _ _]) _ _ _); k_dflt (focus (refine' num4 _ _ _ _ _ _ _ _ _ _ _ _ _ _ _ _ _ _ _ _ _ _ _ _ ?z6683cB ?z6683cF ?z6683cX ?z6683cN ?z6683cT ?z6683cK ?z6683hb ?z6683cd ?z6683cu (fun t' h' tk' F' N' => ?_); (case z6683cF => k_asm); (case z6683cB => k_asm); (case z6683cX => k_asm); (case z6683cN => k_asm); (case z6683cT => k_asm); (case z6683cK => first | exact rfl | assumption); (case z6683hb => assumption); (case z6683cd => ktr_room); (case z6683cu => ktr_room); all_goals (try dsimp only)))))
  k_with "call ref" =>
    fail_if_success (k_extra "off L58")
    ((k_here; (with_reducible show wpAny _ _ (call (Value.ref (k_addr% "octets_number")) [Value.bytes _ _]) _ _ _); k_dflt (focus (refine' num6 _ _ _ _ _ _ _ _ _ _ _ _ _ _ _ _ _ _ _ _ _ _ _ _ _ _ ?z9845cB ?z9845cF ?z9845cX ?z9845cN ?z9845cT ?z9845cK ?z9845hb ?z9845cd ?z9845cu (fun t' h' tk' F' N' => ?_); (case z9845cF => k_asm); (case z9845cB => k_asm); (case z9845cX => k_asm); (case z9845cN => k_asm); (case z9845cT => k_asm); (case z9845cK => first | exact rfl | assumption); (case z9845hb => assumption); (case z9845cd => ktr_room); (case z9845cu => ktr_room); all_goals (try dsimp only)))))
  k_with "MSrcL" =>
    fail_if_success (k_extra "off L58")
    ((k_here; (with_reducible show MSrcL _ _ _ _ _ _ _ _ _ _ _ _ _ _ (Value.ref 112) _); k_dflt (refine' MSrcL.flags ?z8062x ?z8062h ?z8062F ?z8062N ?z8062hk ?z8062ha ?z8062hb ?_; (case z8062x => k_asm); (case z8062h => rfl); (case z8062F => k_asm); (case z8062N => k_asm); (case z8062hk => rfl); (case z8062ha => rfl); (case z8062hb => rfl); intro g9')))
  k_with "MSrcD" =>
    fail_if_success (k_extra "off L58")
    ((k_here; (with_reducible show MSrcD _ _ _ _ _ _ _ _ _ _ _ _ _ _ _ (Value.ref 112) _); k_dflt (refine' MSrcD.flags ?z9714x ?z9714h ?z9714F ?z9714N ?z9714hk ?z9714ha ?z9714hb ?_; (case z9714x => k_asm); (case z9714h => rfl); (case z9714F => k_asm); (case z9714N => k_asm); (case z9714hk => rfl); (case z9714ha => rfl); (case z9714hb => rfl); intro g9')))
  k_with "call ref" =>
    fail_if_success (k_extra "off L58")
    ((k_here; (with_reducible show wpAny _ _ (call (Value.ref 119) [Value.ref _]) _ _ _); k_dflt (focus (refine' chk_row _ _ _ _ _ _ _ _ _ _ _ _ _ _ _ _ _ _ _ _ _ _ _ _ _ _ _ _ _ _ _ _ _ _ _ _ _ _ _ _ _ _ _ _ _ _ ?z6002cB ?z6002cF ?z6002cX ?z6002cN ?z6002cT ?z6002cK ?z6002h1 ?z6002h2 ?z6002h3 ?z6002cd ?z6002cu (fun hrow' h' tk' F' N' => ?_) (fun h9' e' t' vs' g2' h' tk' F' U' R' => ?_); (case z6002cF => k_asm); (case z6002cB => k_asm); (case z6002cX => k_asm); (case z6002cN => k_asm); (case z6002cT => k_asm); (case z6002cK => first | exact rfl | assumption); (case z6002h1 => k_mem); (case z6002h2 => k_mem); (case z6002h3 => k_mem); (case z6002cd => ktr_room); (case z6002cu => ktr_room); all_goals (try dsimp only)))))
  k_with "call ref" =>
    fail_if_success (k_extra "off L58")
    ((k_here; (with_reducible show wpAny _ _ (call (Value.ref 65) [Value.ref _]) _ _ _); k_dflt (focus (refine' bridge _ _ _ _ _ _ _ _ _ _ _ _ _ _ _ _ _ _ _ _ _ _ _ ?z7065cB ?z7065cF ?z7065cX ?z7065cN ?z7065cT ?z7065cK ?z7065h1 ?z7065cd ?z7065cu (fun k0' k1' k2' k3' b' t' h' tk' hb' F' N' => ?_) (fun h9' e' t' vs' g2' h' tk' F' U' R' => ?_); (case z7065cF => k_asm); (case z7065cB => k_asm); (case z7065cX => k_asm); (case z7065cN => k_asm); (case z7065cT => k_asm); (case z7065cK => first | exact rfl | assumption); (case z7065h1 => k_mem); (case z7065cd => ktr_room); (case z7065cu => ktr_room); all_goals (try dsimp only)))))
  k_with "getMethod ref" =>
    fail_if_success (k_extra "off L58")
    ((k_here; (with_reducible show wpAny _ _ (getMethod (Value.ref 73) (PySem.Str.ofString "index") _) _ _ _); k_dflt (refine' tup_method ?z7467X ?_; (case z7467X => k_in))))
  k_with "call builtin:tuple.index" =>
    fail_if_success (k_extra "off L58")
    ((k_here; (with_reducible show wpAny _ _ (call (Value.builtin _) [Value.ref 73, Value.str _ _]) _ _ _); k_dflt (refine' role_index_tuple ?z4001r ?z4001X ?_; (case z4001X => k_in); (case z4001r => first | assumption | exact (by assumption : IsRow _ _ _ _ _).1))))
  k_with "call builtin:list.index" =>
    fail_if_success (k_extra "off L58")
    ((k_here; (with_reducible show wpAny _ _ (call (Value.builtin _) [Value.ref _, Value.str _ _]) _ _ _); k_dflt (refine' role_index_list ?z2284r ?z2284N ?z2284m ?_; (case z2284N => k_asm); (case z2284m => k_mem); (case z2284r => first | assumption | exact (by assumption : IsRow _ _ _ _ _).1))))
  k_with "newList" =>
    fail_if_success (k_extra "off L58")
    (k_here; k_dflt (refine' newList_L ?nl1 ?nl2 ?_; (case nl1 => k_asm); (case nl2 => k_asm); k_whole); intro l' h' F' o9 N' l1; (try k_lt l1); (try k_sweep))
  k_with "newTuple" =>
    fail_if_success (k_extra "off L58")
    (k_here; k_dflt (refine' newTuple_L ?nt1 ?nt2 ?_ ?nt3; (case nt1 => k_asm); (case nt2 => k_asm); (case nt3 => kmk_size)); intro D' h' F' o9 N' l1; (try k_lt l1); (try k_sweep))
  trivial
theorem rowoct_in {w : World} {p : Program} {loose : List Str} {mean : ExcName → Option Value} {mg mb : Str → Option Value}
  (κ : Cx) (A₀ : Around) (base h₀ : Heap) (m : Str → Option Value) (s : Shared) (Q E : Value → Shared → Prop)
  (led : Led) (x dx rg fd : Addr) (inst low mac cost prio port hops : Int) (t1 t2 t3 t4 t5 t6 t7 t8 : Tok) (role : Str) (q1 q2 q3 q4 q5 q6 q7 q8 : Tok) (fD : Obj) (f1 f2 f3 f4 f5 : Bool)
  (B : Below A₀ base κ.outer h₀) (F : Fr h₀ κ.L s.heap m) (X : (KH w.params).In h₀) (N : News h₀ κ.L s.heap (led))
  (T : Top p loose mean mg mb h₀) (hk : κ.cs.kind = .function) (he1 : (x, instObj 102 dx) ∈ led) (he2 : (dx, dictOf [{ hash := PyData.keyHash w.params "instance", key := .str "instance" q1, val := .int inst t1 }, { hash := PyData.keyHash w.params "regional", key := .str "regional" q2, val := .ref rg }, { hash := PyData.keyHash w.params "cost", key := .str "cost" q3, val := .int cost t4 }, { hash := PyData.keyHash w.params "bridge_priority", key := .str "bridge_priority" q4, val := .int prio t5 }, { hash := PyData.keyHash w.params "port_priority", key := .str "port_priority" q5, val := .int port t6 }, { hash := PyData.keyHash w.params "hops", key := .str "hops" q6, val := .int hops t7 }, { hash := PyData.keyHash w.params "role", key := .str "role" q7, val := .str role t8 }, { hash := PyData.keyHash w.params "flags", key := .str "flags" q8, val := .ref fd }] 8) ∈ led) (he3 : (rg, tupO [.int low t2, .int mac t3]) ∈ led) (he4 : (fd, fD) ∈ led)
  (hD : fD.IsDictOf (strKind prg w) [("change", .bool f1), ("proposal", .bool f2), ("learning", .bool f3), ("forwarding", .bool f4), ("agreement", .bool f5)])
  (hd : κ.dp + 60 < recursionLimit) (hu : κ.un + 500 < cLine)
  (ret : IsRow inst low prio port role → 0 ≤ low ∧ low < 65536 ∧ 0 ≤ mac ∧ mac < 281474976710656 ∧ 0 ≤ cost ∧ cost < 4294967296 ∧ 0 ≤ prio / 256 ∧ prio / 256 < 256 ∧ 0 ≤ port ∧ port < 256 ∧ 0 ≤ hops ∧ hops < 256 → ∀ (b : Array UInt8) (t : Tok) (h' : Heap) (tk' : Nat), KBw.bInts b = [4 * roleIx role + flagSum f1 f2 f3 f4 f5, low / 256 % 256, low % 256, mac / 1099511627776 % 256, mac / 4294967296 % 256, mac / 16777216 % 256, mac / 65536 % 256, mac / 256 % 256, mac % 256, cost / 16777216 % 256, cost / 65536 % 256, cost / 256 % 256, cost % 256, prio / 256, port, hops] → Fr h₀ κ.L h' m → News h₀ κ.L h' led → Q (.bytes b t) { s with heap := h', toks := tk' })
  (err : ¬(IsRow inst low prio port role ∧ 0 ≤ low ∧ low < 65536 ∧ 0 ≤ mac ∧ mac < 281474976710656 ∧ 0 ≤ cost ∧ cost < 4294967296 ∧ 0 ≤ prio / 256 ∧ prio / 256 < 256 ∧ 0 ≤ port ∧ port < 256 ∧ 0 ≤ hops ∧ hops < 256) → ∀ (e t : Addr) (vs : List Value) (g₂ h' : Heap) (tk' : Nat), Fr h₀ κ.L g₂ m → g₂.UpToSlots h' → RaisedS base g₂ (envX κ.cn κ.cs κ.L κ.a κ.ccd κ.cl :: κ.outer) e (.ref 44) t vs led h' → E (.ref e) { s with heap := h', toks := tk' }):
  wpAny (model prg w) (T1 κ) (call (.ref (k_addr% "row_octets")) [.ref x]) Q E s := (by exact use_of : Use _ (by
 first
 | (
  have N9 : News h₀ κ.L s.heap ((x, instObj 102 dx) :: (dx, dictOf [{ hash := PyData.keyHash w.params "instance", key := .str "instance" q1, val := .int inst t1 }, { hash := PyData.keyHash w.params "regional", key := .str "regional" q2, val := .ref rg }, { hash := PyData.keyHash w.params "cost", key := .str "cost" q3, val := .int cost t4 }, { hash := PyData.keyHash w.params "bridge_priority", key := .str "bridge_priority" q4, val := .int prio t5 }, { hash := PyData.keyHash w.params "port_priority", key := .str "port_priority" q5, val := .int port t6 }, { hash := PyData.keyHash w.params "hops", key := .str "hops" q6, val := .int hops t7 }, { hash := PyData.keyHash w.params "role", key := .str "role" q7, val := .str role t8 }, { hash := PyData.keyHash w.params "flags", key := .str "flags" q8, val := .ref fd }] 8) :: (rg, tupO [.int low t2, .int mac t3]) :: (fd, fD) :: led) := by
    intro p9 hp9
    simp only [List.mem_cons] at hp9
    rcases hp9 with rfl | rfl | rfl | rfl | hp9
    · exact N _ he1
    · exact N _ he2
    · exact N _ he3
    · exact N _ he4
    · exact N _ hp9
  clear N
  refine wpAny_call ?_
  k_dflt k_enter
  k_steps
  all_goals first
    | exact err (by first | exact fun h9 => absurd h9.1 (by assumption) | (intro h9; have h8 := h9.2; omega)) _ _ _ _ _ _ (by assumption) (by assumption) (raised_sub (by assumption) (by intro p9 hp9; repeat (first | exact hp9 | apply List.Mem.tail)))
    | skip
  have hsum9 := @flagSum_in f1 f2 f3 f4 f5
  have hix9 := @roleIx_in role
  refine McL.stepT (fun ys => SumIs 1 ys (0 + bitIf f1 1)) ?_ ?_
  · intro I' oI' C' oC' D' m' h' tk' E' hC' hasg' F' N' off' ne'
    obtain ⟨t9', u9', ha9', hb9'⟩ := hasg'
    simp only [PyProof.Rows.LCg.Off3, and_true] at off'
    (repeat (obtain ⟨⟨_, _, _⟩, off'⟩ := off'))
    k_steps
    all_goals ((try (refine ⟨rfl, ?_⟩)); simp only [*, bitIf_t, bitIf_f]; first | exact SumIs.more SumIs.nil | exact SumIs.keep0 SumIs.nil)
  intro ys1 hs1
  refine McL.stepT (fun ys => SumIs 2 ys (0 + bitIf f1 1 + bitIf f2 2)) ?_ ?_
  · intro I' oI' C' oC' D' m' h' tk' E' hC' hasg' F' N' off' ne'
    obtain ⟨t9', u9', ha9', hb9'⟩ := hasg'
    simp only [PyProof.Rows.LCg.Off3, and_true] at off'
    (repeat (obtain ⟨⟨_, _, _⟩, off'⟩ := off'))
    k_steps
    all_goals ((try (refine ⟨rfl, ?_⟩)); simp only [*, bitIf_t, bitIf_f]; first | exact SumIs.more hs1 | exact SumIs.keep0 hs1)
  intro ys2 hs2
  refine McL.stepT (fun ys => SumIs 3 ys (0 + bitIf f1 1 + bitIf f2 2 + bitIf f3 16)) ?_ ?_
  · intro I' oI' C' oC' D' m' h' tk' E' hC' hasg' F' N' off' ne'
    obtain ⟨t9', u9', ha9', hb9'⟩ := hasg'
    simp only [PyProof.Rows.LCg.Off3, and_true] at off'
    (repeat (obtain ⟨⟨_, _, _⟩, off'⟩ := off'))
    k_steps
    all_goals ((try (refine ⟨rfl, ?_⟩)); simp only [*, bitIf_t, bitIf_f]; first | exact SumIs.more hs2 | exact SumIs.keep0 hs2)
  intro ys3 hs3
  refine McL.stepT (fun ys => SumIs 4 ys (0 + bitIf f1 1 + bitIf f2 2 + bitIf f3 16 + bitIf f4 32)) ?_ ?_
  · intro I' oI' C' oC' D' m' h' tk' E' hC' hasg' F' N' off' ne'
    obtain ⟨t9', u9', ha9', hb9'⟩ := hasg'
    simp only [PyProof.Rows.LCg.Off3, and_true] at off'
    (repeat (obtain ⟨⟨_, _, _⟩, off'⟩ := off'))
    k_steps
    all_goals ((try (refine ⟨rfl, ?_⟩)); simp only [*, bitIf_t, bitIf_f]; first | exact SumIs.more hs3 | exact SumIs.keep0 hs3)
  intro ys4 hs4
  refine McL.stepT (fun ys => SumIs 5 ys (0 + bitIf f1 1 + bitIf f2 2 + bitIf f3 16 + bitIf f4 32 + bitIf f5 64)) ?_ ?_
  · intro I' oI' C' oC' D' m' h' tk' E' hC' hasg' F' N' off' ne'
    obtain ⟨t9', u9', ha9', hb9'⟩ := hasg'
    simp only [PyProof.Rows.LCg.Off3, and_true] at off'
    (repeat (obtain ⟨⟨_, _, _⟩, off'⟩ := off'))
    k_steps
    all_goals ((try (refine ⟨rfl, ?_⟩)); simp only [*, bitIf_t, bitIf_f]; first | exact SumIs.more hs4 | exact SumIs.keep0 hs4)
  intro ys5 hs5
  obtain ⟨ks9, hi9, hl9, hv9⟩ := hs5
  have hfs9 : flagSum f1 f2 f3 f4 f5 = ks9.sum := hv9.symm
  k_steps
  all_goals first
    | exact ret (by assumption) (by and_intros <;> first | with_reducible assumption | exact leE' (by assumption) (by assumption) | exact ltE' (by assumption) (by assumption) | omega) _ _ _ _ (by refine Eq.trans (by assumption) ?_; rw [hfs9]; simp only [List.cons_append, List.nil_append, List.cons.injEq, and_true, true_and]; first | (and_intros <;> first | exact Int.emod_eq_of_lt (by assumption) (by assumption) | exact modE (by assumption) (by assumption) (by assumption) | omega) | omega) (by k_asm) (by refine cb_drop (by assumption) ?_; intro p9 hp9; repeat (first | exact hp9 | apply List.Mem.tail))
    | exact err (by first | exact fun h9 => absurd h9.1 (by assumption) | (intro h9; have h8 := h9.2; omega)) _ _ _ _ _ _ (by assumption) (by assumption) (raised_sub (by assumption) (by intro p9 hp9; repeat (first | exact hp9 | apply List.Mem.tail)))
    | (exfalso; omega))
 | fail))
theorem rowoct {w : World} {p : Program} {loose : List Str} {mean : ExcName → Option Value} {mg mb : Str → Option Value}
  (dp un : Nat) (gd : Option (List Code)) (cn : Str) (cs : Scope) (a : Addr) (ccd : Value) (cl : List (Str × Addr)) (outer : List Env) (A₀ : Around) (base h₀ : Heap) (L : Addr) (m : Str → Option Value) (s : Shared) (Q E : Value → Shared → Prop)
  (led : Led) (x dx rg fd : Addr) (inst low mac cost prio port hops : Int) (t1 t2 t3 t4 t5 t6 t7 t8 : Tok) (role : Str) (q1 q2 q3 q4 q5 q6 q7 q8 : Tok) (fD : Obj) (f1 f2 f3 f4 f5 : Bool)
  (B : Below A₀ base outer h₀) (F : Fr h₀ L s.heap m) (X : (KH w.params).In h₀) (N : News h₀ L s.heap (led))
  (T : Top p loose mean mg mb h₀) (hk : cs.kind = .function) (he1 : (x, instObj 102 dx) ∈ led) (he2 : (dx, dictOf [{ hash := PyData.keyHash w.params "instance", key := .str "instance" q1, val := .int inst t1 }, { hash := PyData.keyHash w.params "regional", key := .str "regional" q2, val := .ref rg }, { hash := PyData.keyHash w.params "cost", key := .str "cost" q3, val := .int cost t4 }, { hash := PyData.keyHash w.params "bridge_priority", key := .str "bridge_priority" q4, val := .int prio t5 }, { hash := PyData.keyHash w.params "port_priority", key := .str "port_priority" q5, val := .int port t6 }, { hash := PyData.keyHash w.params "hops", key := .str "hops" q6, val := .int hops t7 }, { hash := PyData.keyHash w.params "role", key := .str "role" q7, val := .str role t8 }, { hash := PyData.keyHash w.params "flags", key := .str "flags" q8, val := .ref fd }] 8) ∈ led) (he3 : (rg, tupO [.int low t2, .int mac t3]) ∈ led) (he4 : (fd, fD) ∈ led)
  (hD : fD.IsDictOf (strKind prg w) [("change", .bool f1), ("proposal", .bool f2), ("learning", .bool f3), ("forwarding", .bool f4), ("agreement", .bool f5)])
  (hd : dp + 60 < recursionLimit) (hu : un + 500 < cLine)
  (ret : IsRow inst low prio port role → 0 ≤ low ∧ low < 65536 ∧ 0 ≤ mac ∧ mac < 281474976710656 ∧ 0 ≤ cost ∧ cost < 4294967296 ∧ 0 ≤ prio / 256 ∧ prio / 256 < 256 ∧ 0 ≤ port ∧ port < 256 ∧ 0 ≤ hops ∧ hops < 256 → ∀ (b : Array UInt8) (t : Tok) (h' : Heap) (tk' : Nat), KBw.bInts b = [4 * roleIx role + flagSum f1 f2 f3 f4 f5, low / 256 % 256, low % 256, mac / 1099511627776 % 256, mac / 4294967296 % 256, mac / 16777216 % 256, mac / 65536 % 256, mac / 256 % 256, mac % 256, cost / 16777216 % 256, cost / 65536 % 256, cost / 256 % 256, cost % 256, prio / 256, port, hops] → Fr h₀ L h' m → News h₀ L h' led → Q (.bytes b t) { s with heap := h', toks := tk' })
  (err : ¬(IsRow inst low prio port role ∧ 0 ≤ low ∧ low < 65536 ∧ 0 ≤ mac ∧ mac < 281474976710656 ∧ 0 ≤ cost ∧ cost < 4294967296 ∧ 0 ≤ prio / 256 ∧ prio / 256 < 256 ∧ 0 ≤ port ∧ port < 256 ∧ 0 ≤ hops ∧ hops < 256) → ∀ (e t : Addr) (vs : List Value) (g₂ h' : Heap) (tk' : Nat), Fr h₀ L g₂ m → g₂.UpToSlots h' → RaisedS base g₂ (envX cn cs L a ccd cl :: outer) e (.ref 44) t vs led h' → E (.ref e) { s with heap := h', toks := tk' }):
  wpAny (model prg w) (ktrTop dp un gd cn cs L a ccd cl outer) (call (.ref (k_addr% "row_octets")) [.ref x]) Q E s :=
  rowoct_in ⟨dp, un, gd, cn, cs, L, a, ccd, cl, outer⟩ A₀ base h₀ m s Q E led x dx rg fd inst low mac cost prio port hops t1 t2 t3 t4 t5 t6 t7 t8 role q1 q2 q3 q4 q5 q6 q7 q8 fD f1 f2 f3 f4 f5 B F X N T hk he1 he2 he3 he4 hD hd hu ret err
theorem wdoL58 : True := by
  k_with "off L58" => skip
  trivial
end
section
set_option maxHeartbeats 3000000
theorem wdsL64 : True := by
  k_with "call ref" =>
    fail_if_success (k_extra "off L64")
    ((k_here; (with_reducible show wpAny _ _ (call (Value.ref 51) [Value.int _ _, Value.int 1 _]) _ _ _); k_dflt (focus (refine' oct1 _ _ _ _ _ _ _ _ _ _ _ _ _ _ _ _ _ _ _ _ _ ?z1596cB ?z1596cF ?z1596cX ?z1596cN ?z1596cT ?z1596cK  ?z1596cd ?z1596cu (fun k0' k1' b' t' h' tk' hb' F' N' => ?_) (fun h9' e' t' vs' g2' h' tk' F' U' R' => ?_); (case z1596cF => k_asm); (case z1596cB => k_asm); (case z1596cX => k_asm); (case z1596cN => k_asm); (case z1596cT => k_asm); (case z1596cK => first | exact rfl | assumption);  (case z1596cd => ktr_room); (case z1596cu => ktr_room); all_goals (try dsimp only)))))
  k_with "call ref" =>
    fail_if_success (k_extra "off L64")
    ((k_here; (with_reducible show wpAny _ _ (call (Value.ref 51) [Value.int _ _, Value.int 2 _]) _ _ _); k_dflt (focus (refine' oct2 _ _ _ _ _ _ _ _ _ _ _ _ _ _ _ _ _ _ _ _ _ ?z4531cB ?z4531cF ?z4531cX ?z4531cN ?z4531cT ?z4531cK  ?z4531cd ?z4531cu (fun k0' k1' b' t' h' tk' hb' F' N' => ?_) (fun h9' e' t' vs' g2' h' tk' F' U' R' => ?_); (case z4531cF => k_asm); (case z4531cB => k_asm); (case z4531cX => k_asm); (case z4531cN => k_asm); (case z4531cT => k_asm); (case z4531cK => first | exact rfl | assumption);  (case z4531cd => ktr_room); (case z4531cu => ktr_room); all_goals (try dsimp only)))))
  k_with "call ref" =>
    fail_if_success (k_extra "off L64")
    ((k_here; (with_reducible show wpAny _ _ (call (Value.ref 51) [Value.int _ _, Value.int 4 _]) _ _ _); k_dflt (focus (refine' oct4 _ _ _ _ _ _ _ _ _ _ _ _ _ _ _ _ _ _ _ _ _ ?z5016cB ?z5016cF ?z5016cX ?z5016cN ?z5016cT ?z5016cK  ?z5016cd ?z5016cu (fun k0' k1' b' t' h' tk' hb' F' N' => ?_) (fun h9' e' t' vs' g2' h' tk' F' U' R' => ?_); (case z5016cF => k_asm); (case z5016cB => k_asm); (case z5016cX => k_asm); (case z5016cN => k_asm); (case z5016cT => k_asm); (case z5016cK => first | exact rfl | assumption);  (case z5016cd => ktr_room); (case z5016cu => ktr_room); all_goals (try dsimp only)))))
  k_with "call ref" =>
    fail_if_success (k_extra "off L64")
    ((k_here; (with_reducible show wpAny _ _ (call (Value.ref 51) [Value.int _ _, Value.int 6 _]) _ _ _); k_dflt (focus (refine' oct6 _ _ _ _ _ _ _ _ _ _ _ _ _ _ _ _ _ _ _ _ _ ?z2799cB ?z2799cF ?z2799cX ?z2799cN ?z2799cT ?z2799cK  ?z2799cd ?z2799cu (fun k0' k1' b' t' h' tk' hb' F' N' => ?_) (fun h9' e' t' vs' g2' h' tk' F' U' R' => ?_); (case z2799cF => k_asm); (case z2799cB => k_asm); (case z2799cX => k_asm); (case z2799cN => k_asm); (case z2799cT => k_asm); (case z2799cK => first | exact rfl | assumption);  (case z2799cd => ktr_room); (case z2799cu => ktr_room); all_goals (try dsimp only)))))
  k_with "call ref" =>
    fail_if_success (k_extra "off L64")
    ((k_here; (with_reducible show wpAny _ _ (call (Value.ref (k_addr% "_law_big")) [Value.int _ _, Value.int 2 _]) _ _ _); k_dflt (focus (refine' big2 _ _ _ _ _ _ _ _ _ _ _ _ _ _ _ _ _ _ _ _ _ ?z551cB ?z551cF ?z551cX ?z551cN ?z551cT ?z551cK ?z551k0 ?z551k1 ?z551cd ?z551cu (fun b' t' h' tk' hb' F' N' => ?_); (case z551cF => k_asm); (case z551cB => k_asm); (case z551cX => k_asm); (case z551cN => k_asm); (case z551cT => k_asm); (case z551cK => first | exact rfl | assumption); (case z551k0 => omega); (case z551k1 => omega); (case z551cd => ktr_room); (case z551cu => ktr_room); all_goals (try dsimp only)))))
  k_with "call ref" =>
    fail_if_success (k_extra "off L64")
    ((k_here; (with_reducible show wpAny _ _ (call (Value.ref (k_addr% "_law_big")) [Value.int _ _, Value.int 4 _]) _ _ _); k_dflt (focus (refine' big4 _ _ _ _ _ _ _ _ _ _ _ _ _ _ _ _ _ _ _ _ _ ?z4165cB ?z4165cF ?z4165cX ?z4165cN ?z4165cT ?z4165cK ?z4165k0 ?z4165k1 ?z4165cd ?z4165cu (fun b' t' h' tk' hb' F' N' => ?_); (case z4165cF => k_asm); (case z4165cB => k_asm); (case z4165cX => k_asm); (case z4165cN => k_asm); (case z4165cT => k_asm); (case z4165cK => first | exact rfl | assumption); (case z4165k0 => omega); (case z4165k1 => omega); (case z4165cd => ktr_room); (case z4165cu => ktr_room); all_goals (try dsimp only)))))
  k_with "call ref" =>
    fail_if_success (k_extra "off L64")
    ((k_here; (with_reducible show wpAny _ _ (call (Value.ref (k_addr% "_law_big")) [Value.int _ _, Value.int 6 _]) _ _ _); k_dflt (focus (refine' big6 _ _ _ _ _ _ _ _ _ _ _ _ _ _ _ _ _ _ _ _ _ ?z1573cB ?z1573cF ?z1573cX ?z1573cN ?z1573cT ?z1573cK ?z1573k0 ?z1573k1 ?z1573cd ?z1573cu (fun b' t' h' tk' hb' F' N' => ?_); (case z1573cF => k_asm); (case z1573cB => k_asm); (case z1573cX => k_asm); (case z1573cN => k_asm); (case z1573cT => k_asm); (case z1573cK => first | exact rfl | assumption); (case z1573k0 => omega); (case z1573k1 => omega); (case z1573cd => ktr_room); (case z1573cu => ktr_room); all_goals (try dsimp only)))))
  k_with "call ref" =>
    fail_if_success (k_extra "off L64")
    ((k_here; (with_reducible show wpAny _ _ (call (Value.ref (k_addr% "octets_number")) [Value.bytes _ _]) _ _ _); k_dflt (focus (refine' num2 _ _ _ _ _ _ _ _ _ _ _ _ _ _ _ _ _ _ _ _ _ _ ?z4632cB ?z4632cF ?z4632cX ?z4632cN ?z4632cT ?z4632cK ?z4632hb ?z4632cd ?z4632cu (fun t' h' tk' F' N' => ?_); (case z4632cF => k_asm); (case z4632cB => k_asm); (case z4632cX => k_asm); (case z4632cN => k_asm); (case z4632cT => k_asm); (case z4632cK => first | exact rfl | assumption); (case z4632hb => assumption); (case z4632cd => ktr_room); (case z4632cu => ktr_room); all_goals (try dsimp only)))))
  k_with "call ref" =>
    fail_if_success (k_extra "off L64")
    ((k_here; (with_reducible show wpAny _ _ (call (Value.ref (k_addr% "octets_number")) [Value.bytes _ _]) _ _ _); k_dflt (focus (refine' num4 _ _ _ _ _ _ _ _ _ _ _ _ _ _ _ _ _ _ _ _ _ _ _ _ ?z6683cB ?z6683cF ?z6683cX ?z6683cN ?z6683cT ?z6683cK ?z6683hb ?z6683cd ?z6683cu (fun t' h' tk' F' N' => ?_); (case z6683cF => k_asm); (case z6683cB => k_asm); (case z6683cX => k_asm); (case z6683cN => k_asm); (case z6683cT => k_asm); (case z6683cK => first | exact rfl | assumption); (case z6683hb => assumption); (case z6683cd => ktr_room); (case z6683cu => ktr_room); all_goals (try dsimp only)))))
  k_with "call ref" =>
    fail_if_success (k_extra "off L64")
    ((k_here; (with_reducible show wpAny _ _ (call (Value.ref (k_addr% "octets_number")) [Value.bytes _ _]) _ _ _); k_dflt (focus (refine' num6 _ _ _ _ _ _ _ _ _ _ _ _ _ _ _ _ _ _ _ _ _ _ _ _ _ _ ?z9845cB ?z9845cF ?z9845cX ?z9845cN ?z9845cT ?z9845cK ?z9845hb ?z9845cd ?z9845cu (fun t' h' tk' F' N' => ?_); (case z9845cF => k_asm); (case z9845cB => k_asm); (case z9845cX => k_asm); (case z9845cN => k_asm); (case z9845cT => k_asm); (case z9845cK => first | exact rfl | assumption); (case z9845hb => assumption); (case z9845cd => ktr_room); (case z9845cu => ktr_room); all_goals (try dsimp only)))))
  k_with "MSrcL" =>
    fail_if_success (k_extra "off L64")
    ((k_here; (with_reducible show MSrcL _ _ _ _ _ _ _ _ _ _ _ _ _ _ (Value.ref 112) _); k_dflt (refine' MSrcL.flags ?z8062x ?z8062h ?z8062F ?z8062N ?z8062hk ?z8062ha ?z8062hb ?_; (case z8062x => k_asm); (case z8062h => rfl); (case z8062F => k_asm); (case z8062N => k_asm); (case z8062hk => rfl); (case z8062ha => rfl); (case z8062hb => rfl); intro g9')))
  k_with "MSrcD" =>
    fail_if_success (k_extra "off L64")
    ((k_here; (with_reducible show MSrcD _ _ _ _ _ _ _ _ _ _ _ _ _ _ _ (Value.ref 112) _); k_dflt (refine' MSrcD.flags ?z9714x ?z9714h ?z9714F ?z9714N ?z9714hk ?z9714ha ?z9714hb ?_; (case z9714x => k_asm); (case z9714h => rfl); (case z9714F => k_asm); (case z9714N => k_asm); (case z9714hk => rfl); (case z9714ha => rfl); (case z9714hb => rfl); intro g9')))
  k_with "subscriptTail" =>
    fail_if_success (k_extra "off L64")
    ((k_here; (with_reducible show wpAny _ _ (subscriptTail _ _ (Value.ref 73) (Value.int _ _)) _ _ _); k_dflt (refine' role_at_tuple ?z223X ?z223a ?z223b ?_; (case z223X => k_in); (case z223a => first | exact mod4A (by assumption) | omega); (case z223b => first | exact mod4B (by assumption) | omega); intro t')))
  k_with "subscriptTail Name Constant bytes int" =>
    fail_if_success (k_extra "off L64")
    ((k_here; (with_reducible show wpAny _ _ (subscriptTail _ _ (Value.bytes _ _) (Value.int _ _)) _ _ _); k_dflt (refine' item_byte ?z8159hk ?z8159a ?z8159b ?z8159z ?z8159x ?_ ?z8159hs ?z8159ht; (case z8159hk => assumption); (case z8159a => decide); (case z8159b => (simp only [List.length_cons, List.length_nil]; omega)); (case z8159z => (simp only [List.length_cons, List.length_nil]; omega)); (case z8159x => rfl); (case z8159hs => with_unfolding_all rfl); (case z8159ht => intro _; with_unfolding_all rfl); intro t' n' lo' hi'; (try dsimp only))))
  k_with "subscriptTail" =>
    fail_if_success (k_extra "off L64")
    ((k_here; (with_reducible show wpAny _ _ (subscriptTail _ (Expr.Slice _ _ none _) (Value.bytes _ _) (Value.ref _)) _ _ _); k_dflt (refine' slice_lit (s := ⟨_, _, _, _, _⟩) ?z6820F ?z6820N ?z6820hk ?z6820l ?z6820u ?z6820z ?z6820r ?_ ?z6820hs ?z6820ht; (case z6820F => k_asm); (case z6820N => k_asm); (case z6820hk => assumption); (case z6820l => constructor); (case z6820u => constructor); (case z6820z => (simp only [List.length_cons, List.length_nil]; omega)); (case z6820r => (simp [clipAt, Int.max_def, Int.min_def]; rfl)); (case z6820hs => with_unfolding_all rfl); (case z6820ht => intro _; with_unfolding_all rfl); intro b2' h' t' n' F' N' hb2'; (try dsimp only))))
  k_with "newList" =>
    fail_if_success (k_extra "off L64")
    (k_here; k_dflt (refine' newList_L ?nl1 ?nl2 ?_; (case nl1 => k_asm); (case nl2 => k_asm); k_whole); intro l' h' F' o9 N' l1; (try k_lt l1); (try k_sweep))
  k_with "newTuple" =>
    fail_if_success (k_extra "off L64")
    (k_here; k_dflt (refine' newTuple_L ?nt1 ?nt2 ?_ ?nt3; (case nt1 => k_asm); (case nt2 => k_asm); (case nt3 => kmk_size)); intro D' h' F' o9 N' l1; (try k_lt l1); (try k_sweep))
  trivial
theorem readrow_in {w : World} {p : Program} {loose : List Str} {mean : ExcName → Option Value} {mg mb : Str → Option Value}
  (κ : Cx) (A₀ : Around) (base h₀ : Heap) (m : Str → Option Value) (s : Shared) (Q E : Value → Shared → Prop)
  (led : Led) (b : Array UInt8) (tb : Tok) (o0 o1 o2 o3 o4 o5 o6 o7 o8 o9 o10 o11 o12 o13 o14 o15 : Int)
  (B : Below A₀ base κ.outer h₀) (F : Fr h₀ κ.L s.heap m) (X : (KH w.params).In h₀) (N : News h₀ κ.L s.heap (led))
  (T : Top p loose mean mg mb h₀) (hk : κ.cs.kind = .function) (hb : KBw.bInts b = [o0, o1, o2, o3, o4, o5, o6, o7, o8, o9, o10, o11, o12, o13, o14, o15]) (hr0 : 0 ≤ o0 ∧ o0 < 256) (hr1 : 0 ≤ o1 ∧ o1 < 256) (hr2 : 0 ≤ o2 ∧ o2 < 256) (hr13 : 0 ≤ o13 ∧ o13 < 256) (hr14 : 0 ≤ o14 ∧ o14 < 256)
  (hd : κ.dp + 40 < recursionLimit) (hu : κ.un + 300 < cLine)
  (ret : ∀ (x dx rg fd : Addr) (fD : Obj) (k inst low mac cost prio port : Int) (t1 t2 t3 t4 t5 t6 t7 t8 q1 q2 q3 q4 q5 q6 q7 q8 : Tok) (h' : Heap) (tk' : Nat), k = o0 / 4 % 4 → low = o1 * 256 + o2 → inst = low % 4096 → mac = o3 * 1099511627776 + o4 * 4294967296 + o5 * 16777216 + o6 * 65536 + o7 * 256 + o8 → cost = o9 * 16777216 + o10 * 65536 + o11 * 256 + o12 → prio = o13 / 16 * 4096 → port = o14 / 16 * 16 → fD.IsDictOf (strKind prg w) [("change", .bool (bitAt o0 1)), ("proposal", .bool (bitAt o0 2)), ("learning", .bool (bitAt o0 16)), ("forwarding", .bool (bitAt o0 32)), ("agreement", .bool (bitAt o0 64))] → Fr h₀ κ.L h' m → News h₀ κ.L h' ((x, instObj 102 dx) :: (dx, dictOf [{ hash := PyData.keyHash w.params "instance", key := .str "instance" q1, val := .int inst t1 }, { hash := PyData.keyHash w.params "regional", key := .str "regional" q2, val := .ref rg }, { hash := PyData.keyHash w.params "cost", key := .str "cost" q3, val := .int cost t4 }, { hash := PyData.keyHash w.params "bridge_priority", key := .str "bridge_priority" q4, val := .int prio t5 }, { hash := PyData.keyHash w.params "port_priority", key := .str "port_priority" q5, val := .int port t6 }, { hash := PyData.keyHash w.params "hops", key := .str "hops" q6, val := .int o15 t7 }, { hash := PyData.keyHash w.params "role", key := .str "role" q7, val := .str (roleAt k) t8 }, { hash := PyData.keyHash w.params "flags", key := .str "flags" q8, val := .ref fd }] 8) :: (rg, tupO [.int low t2, .int mac t3]) :: (fd, fD) :: led) → Q (.ref x) { s with heap := h', toks := tk' }):
  wpAny (model prg w) (T1 κ) (call (.ref (k_addr% "read_row")) [.bytes b tb]) Q E s := (by exact use_of : Use _ (by
 first
 | (
  refine wpAny_call ?_
  k_dflt k_enter
  k_steps
  all_goals (rename Obj.IsDictOf _ _ _ => hD9; (try subst_vars); rw [flags_stored, bitAt1, bitAtk (by decide), bitAtk (by decide), bitAtk (by decide), bitAtk (by decide)] at hD9; refine ret _ _ _ _ _ _ _ _ _ _ _ _ _ _ _ _ _ _ _ _ _ _ _ _ _ _ _ _ _ _ ?e1 ?e2 ?e3 ?e4 ?e5 ?e6 ?e7 hD9 (by k_asm) (news_rr (by assumption) (by intro p9 hp9; exact List.mem_cons_of_mem _ hp9)); (case e1 => first | with_reducible rfl | with_reducible assumption | exact modS (by assumption) (by assumption) | omega); (case e2 => first | with_reducible rfl | with_reducible assumption | exact modS (by assumption) (by assumption) | omega); (case e3 => first | with_reducible rfl | with_reducible assumption | exact modS (by assumption) (by assumption) | omega); (case e4 => first | with_reducible rfl | with_reducible assumption | exact modS (by assumption) (by assumption) | omega); (case e5 => first | with_reducible rfl | with_reducible assumption | exact modS (by assumption) (by assumption) | omega); (case e6 => first | with_reducible rfl | with_reducible assumption | exact modS (by assumption) (by assumption) | omega); (case e7 => first | with_reducible rfl | with_reducible assumption | exact modS (by assumption) (by assumption) | omega)))
 | fail))
theorem readrow {w : World} {p : Program} {loose : List Str} {mean : ExcName → Option Value} {mg mb : Str → Option Value}
  (dp un : Nat) (gd : Option (List Code)) (cn : Str) (cs : Scope) (a : Addr) (ccd : Value) (cl : List (Str × Addr)) (outer : List Env) (A₀ : Around) (base h₀ : Heap) (L : Addr) (m : Str → Option Value) (s : Shared) (Q E : Value → Shared → Prop)
  (led : Led) (b : Array UInt8) (tb : Tok) (o0 o1 o2 o3 o4 o5 o6 o7 o8 o9 o10 o11 o12 o13 o14 o15 : Int)
  (B : Below A₀ base outer h₀) (F : Fr h₀ L s.heap m) (X : (KH w.params).In h₀) (N : News h₀ L s.heap (led))
  (T : Top p loose mean mg mb h₀) (hk : cs.kind = .function) (hb : KBw.bInts b = [o0, o1, o2, o3, o4, o5, o6, o7, o8, o9, o10, o11, o12, o13, o14, o15]) (hr0 : 0 ≤ o0 ∧ o0 < 256) (hr1 : 0 ≤ o1 ∧ o1 < 256) (hr2 : 0 ≤ o2 ∧ o2 < 256) (hr13 : 0 ≤ o13 ∧ o13 < 256) (hr14 : 0 ≤ o14 ∧ o14 < 256)
  (hd : dp + 40 < recursionLimit) (hu : un + 300 < cLine)
  (ret : ∀ (x dx rg fd : Addr) (fD : Obj) (k inst low mac cost prio port : Int) (t1 t2 t3 t4 t5 t6 t7 t8 q1 q2 q3 q4 q5 q6 q7 q8 : Tok) (h' : Heap) (tk' : Nat), k = o0 / 4 % 4 → low = o1 * 256 + o2 → inst = low % 4096 → mac = o3 * 1099511627776 + o4 * 4294967296 + o5 * 16777216 + o6 * 65536 + o7 * 256 + o8 → cost = o9 * 16777216 + o10 * 65536 + o11 * 256 + o12 → prio = o13 / 16 * 4096 → port = o14 / 16 * 16 → fD.IsDictOf (strKind prg w) [("change", .bool (bitAt o0 1)), ("proposal", .bool (bitAt o0 2)), ("learning", .bool (bitAt o0 16)), ("forwarding", .bool (bitAt o0 32)), ("agreement", .bool (bitAt o0 64))] → Fr h₀ L h' m → News h₀ L h' ((x, instObj 102 dx) :: (dx, dictOf [{ hash := PyData.keyHash w.params "instance", key := .str "instance" q1, val := .int inst t1 }, { hash := PyData.keyHash w.params "regional", key := .str "regional" q2, val := .ref rg }, { hash := PyData.keyHash w.params "cost", key := .str "cost" q3, val := .int cost t4 }, { hash := PyData.keyHash w.params "bridge_priority", key := .str "bridge_priority" q4, val := .int prio t5 }, { hash := PyData.keyHash w.params "port_priority", key := .str "port_priority" q5, val := .int port t6 }, { hash := PyData.keyHash w.params "hops", key := .str "hops" q6, val := .int o15 t7 }, { hash := PyData.keyHash w.params "role", key := .str "role" q7, val := .str (roleAt k) t8 }, { hash := PyData.keyHash w.params "flags", key := .str "flags" q8, val := .ref fd }] 8) :: (rg, tupO [.int low t2, .int mac t3]) :: (fd, fD) :: led) → Q (.ref x) { s with heap := h', toks := tk' }):
  wpAny (model prg w) (ktrTop dp un gd cn cs L a ccd cl outer) (call (.ref (k_addr% "read_row")) [.bytes b tb]) Q E s :=
  readrow_in ⟨dp, un, gd, cn, cs, L, a, ccd, cl, outer⟩ A₀ base h₀ m s Q E led b tb o0 o1 o2 o3 o4 o5 o6 o7 o8 o9 o10 o11 o12 o13 o14 o15 B F X N T hk hb hr0 hr1 hr2 hr13 hr14 hd hu ret
theorem wdoL64 : True := by
  k_with "off L64" => skip
  trivial
end
section
set_option maxHeartbeats 800000
section turn
open PySem
/-- a return from a frame in which an exception was caught: the ground below may have other slots -/
def LeaveT (A₀ : Around) (base : Heap) (outer : List Env) (fs : List Addr) (h₀ : Heap) (L : Addr) (m : Str → Option Value) (g : Heap) (R : Result → Shared → Prop) (v : Value) (s' : Shared) : Prop :=
  ∃ g' L' m' news', KtsTurn fs g g' ∧ Fr g' L' s'.heap m' ∧ News g' L' s'.heap news' ∧ ∀ h₀', KtsTurn (outer.filterMap (·.frame)) h₀ h₀' → Fr h₀' L s'.heap m → News h₀' L s'.heap news' → Below A₀ base outer h₀' → R (.ok (.ret v)) s'
theorem LeaveT.intro {A₀ : Around} {base : Heap} {outer : List Env} {fs : List Addr} {h₀ : Heap} {L : Addr} {m : Str → Option Value} {g g' : Heap} {R : Result → Shared → Prop} {v : Value} {s' : Shared} {L' : Addr} {m' : Str → Option Value} {news' : Led}
    (T : KtsTurn fs g g') (F : Fr g' L' s'.heap m') (N : News g' L' s'.heap news') (k : ∀ h₀', KtsTurn (outer.filterMap (·.frame)) h₀ h₀' → Fr h₀' L s'.heap m → News h₀' L s'.heap news' → Below A₀ base outer h₀' → R (.ok (.ret v)) s') :
    LeaveT A₀ base outer fs h₀ L m g R v s' := ⟨g', L', m', news', T, F, N, k⟩

section
variable {A₀ A : Around} {s : Shared} {base h₀ : Heap} {outer : List Env} {L : Addr} {m : Str → Option Value} {env : Env} {news : List (Addr × Obj)} {R : Result → Shared → Prop}
theorem groundT (B : Below A₀ base outer h₀) (F : Fr h₀ L s.heap m) (N : News h₀ L s.heap news) (hA : A.frames = some (env :: outer)) (hf : env.frame = some L) (hke : env.scope.kind = .function) (D : KtsDicts (outer.filterMap (·.frame)) h₀) :
    Fr h₀ L (hideAll s.heap (news.map (·.1))) m ∧ Below A base (env :: outer) (hideAll s.heap (news.map (·.1))) ∧ h₀.StaysIn (hideAll s.heap (news.map (·.1))) ∧ KtsDicts ((env :: outer).filterMap (·.frame)) (hideAll s.heap (news.map (·.1))) ∧
      ∀ v s', LeaveT A₀ base outer ((env :: outer).filterMap (·.frame)) h₀ L m (hideAll s.heap (news.map (·.1))) R v s' → R (.ok (.ret v)) s' := (by exact use_of : Use _ (by
 first
 | (
  obtain ⟨FG, BG, st, _⟩ := groundX (R := fun _ _ => True) B F N hA hf hke
  obtain ⟨oL, es, ep, hLg, hLd, hLk, hLf⟩ := FG.ns
  refine ⟨FG, BG, st, fun b hb => ?_, fun v s' hl => ?_⟩
  · rcases kts_memX hf hb with rfl | hb
    · exact ⟨oL, es, ep, hLg, hLd⟩
    · obtain ⟨o, es', n', ho', hd'⟩ := D b hb
      exact ⟨o, es', n', st b o ho', hd'⟩
  · obtain ⟨g', L', m', news', T', F', N', k⟩ := hl
    have nL₀ : h₀.get? L = none := kts_self F
    obtain ⟨sl, hs⟩ := T'.up hLg
    obtain ⟨T₁, S₁⟩ := kts_turn_at (h := s'.heap) (fs := outer.filterMap (·.frame)) (g := h₀)
      (fun b hb => by
        obtain ⟨_, o, ho', _⟩ := B.frames.mem hb
        exact ⟨o, ho'⟩)
      (fun b o e nmem => F'.keep b o (T'.other b o (st b o e) (fun q => by
        rcases kts_memX hf q with z | z
        · rw [z, nL₀] at e; cases e
        · exact nmem z)))
      (fun b o e hm => by
        obtain ⟨sl', hs'⟩ := T'.up (st b o e)
        exact ⟨sl', F'.keep _ _ hs'⟩)
    have B₃ : Below A₀ base outer (ktsHeap s'.heap (outer.filterMap (·.frame)) h₀) := ⟨B.stack, fun b o e => T₁.other b o (B.stays b o e) (fun hm => by
      rw [(B.frames.mem hm).1] at e; cases e), B.frames.of_keeps fun b o e _ => by
      obtain ⟨sl', hs'⟩ := T₁.up e
      exact ⟨_, hs', rfl⟩⟩
    refine k _ T₁ ⟨⟨_, es, ep, F'.keep _ _ hs, hLd, hLk, hLf⟩, S₁, by rw [T₁.size]; exact F.above⟩ (fun p hp => ⟨(N' p hp).1, fun q => ?_, ?_⟩) B₃
    · have := (N' p hp).2.2; rw [q, hs] at this; cases this
    · refine T₁.none_ _ ?_
      cases q : h₀.get? p.1 with
      | none => rfl
      | some o =>
        obtain ⟨sl', hs'⟩ := T'.up (st _ _ q)
        have := (N' p hp).2.2
        rw [hs'] at this; cases this)
 | fail))
end

section
variable {prog : Program} {w : World} {A₀ A : Around} {s : Shared} {base h₀ : Heap} {outer : List Env} {L : Addr} {m : Str → Option Value} {news : List (Addr × Obj)} {K : Frag} {p : Program} {loose : List Str} {mean : ExcName → Option Value} {mg mb : Str → Option Value}
theorem code_defT {env : Env} {R : Result → Shared → Prop} {name qual : Str} {params : Arguments} {body : List Stmt} {scope : Scope} {dV kV doc pm cdv ct oc : Value} {an od : Option Addr} {osl : Array (Option Value)} {f : Addr} {args : Args} {binds : List (Str × Value)}
    (B : Below A₀ base outer h₀) (F : Fr h₀ L s.heap m) (X₀ : K.In h₀) (N : News h₀ L s.heap news) (T : Top p loose mean mg mb h₀) (D : KtsDicts (outer.filterMap (·.frame)) h₀) (hA : A.frames = some (env :: outer)) (hf : env.frame = some L) (hke : env.scope.kind = .function)
    (ho : K.lookup f = some ⟨oc, od, .func (fnOf name qual params body scope dV kV doc pm an cdv ct), osl⟩) (hcd : codeIn K cdv qual = true) (hroom : A.depth < recursionLimit)
    (hbind : BindsTo s (fnOf name qual params body scope dV kV doc pm an cdv ct) args binds) (hloc : ∀ y ∈ binds, scope.names.lookup y.1 = some .local)
    (h : ∀ g L' h₁, Fr h₀ L g m → Fr g L' h₁ (fun y => binds.reverse.lookup y) → News g L' h₁ news → Below A base (env :: outer) g → K.In g → Top p loose mean mg mb g → KtsDicts ((env :: outer).filterMap (·.frame)) g →
      wpAny (model prog w) (A.deeper (envOf qual scope L' f cdv)) (execs body (envOf qual scope L' f cdv))
        (fun fl s' => LeaveT A₀ base outer ((env :: outer).filterMap (·.frame)) h₀ L m g R (match fl with | .ret v => v | _ => .none) s')
        (fun e s' => wpAny (model prog w) (A.deeper (envOf qual scope L' f cdv)) (leaving (envOf qual scope L' f cdv) e) (fun _ s'' => R (.error e) s'') (fun e' s'' => R (.error e') s'') s')
        { s with heap := h₁, toks := s.toks + binds.length })
    (hco : scope.isCoroutine = false) (hgen : scope.isGenerator = false) (hk : scope.kind = .function)
    (hcell : ∀ x ∈ scope.names, x.2 ≠ .cell) : codeAny (model prog w) A (.call (.ref f) args) R s := (by exact use_of : Use _ (by
 first
 | (
  obtain ⟨FG, BG, st, DG, lv⟩ := groundT (R := R) B F N hA hf hke D
  have ho' := (X₀.keeps F.keep) _ _ ho
  refine codeAny_call_def (fd := fnOf name qual params body scope dV kV doc pm an cdv ct) (body := body) (binds := binds) hroom ho' rfl (T.nolimit.keeps F.keep) (codeRec_of (X₀.keeps F.keep) hcd) rfl hbind hcell hloc (fun h₁ hns hk₁ => ?_) hco hgen hk
  exact wpAny_mono (h _ s.heap.objs.size h₁ FG ⟨hns, fun b o e => hk₁ b o (of_hideAll _ e), Nat.le_of_eq (hideAll_size _ _)⟩
    (fun p hp => ⟨hk₁ _ _ (N p hp).1, Nat.ne_of_lt (Heap.lt_size (N p hp).1), hideAll_none _ (List.mem_map_of_mem hp)⟩) BG (X₀.keeps st) (T.keeps st) DG) (fun fl s' hl => lv _ _ hl) fun _ _ y => y)
 | fail))

theorem code_defCT {env : Env} {R : Result → Shared → Prop} {name qual : Str} {params : Arguments} {body : List Stmt} {scope : Scope} {dV kV doc pm cdv ct oc : Value} {an od : Option Addr} {osl : Array (Option Value)} {f : Addr} {args : Args} {binds : List (Str × Value)}
    (B : Below A₀ base outer h₀) (F : Fr h₀ L s.heap m) (X₀ : K.In h₀) (N : News h₀ L s.heap news) (T : Top p loose mean mg mb h₀) (D : KtsDicts (outer.filterMap (·.frame)) h₀) (hA : A.frames = some (env :: outer)) (hf : env.frame = some L) (hke : env.scope.kind = .function)
    (ho : K.lookup f = some ⟨oc, od, .func (fnOf name qual params body scope dV kV doc pm an cdv ct), osl⟩) (hcd : codeIn K cdv qual = true) (hroom : A.depth < recursionLimit)
    (hbind : BindsTo s (fnOf name qual params body scope dV kV doc pm an cdv ct) args binds) (hkind : (binds.all fun y => scope.names.lookup y.1 == some .local || scope.names.lookup y.1 == some .cell) = true)
    (hnd : ((cellsFrom 0 scope.names []).map (·.1)).Nodup)
    (h : ∀ g L' h₁ tk cells, Fr h₀ L g m → Fr g L' h₁ (bindL (envOfC qual scope L' f cdv).kindOf binds fun _ => none) → News g L' h₁ (cells ++ news) →
      CellsAre (bindC (envOfC qual scope L' f cdv).kindOf binds fun _ => none) (cellsFrom (L' + 1) scope.names []) cells → Below A base (env :: outer) g → K.In g → Top p loose mean mg mb g → KtsDicts ((env :: outer).filterMap (·.frame)) g → (∀ p ∈ news, p.1 < L') →
      wpAny (model prog w) (A.deeper (envOfC qual scope L' f cdv)) (execs body (envOfC qual scope L' f cdv))
        (fun fl s' => LeaveT A₀ base outer ((env :: outer).filterMap (·.frame)) h₀ L m g R (match fl with | .ret v => v | _ => .none) s')
        (fun e s' => wpAny (model prog w) (A.deeper (envOfC qual scope L' f cdv)) (leaving (envOfC qual scope L' f cdv) e) (fun _ s'' => R (.error e) s'') (fun e' s'' => R (.error e') s'') s')
        { s with heap := h₁, toks := tk })
    (hco : scope.isCoroutine = false) (hgen : scope.isGenerator = false) (hk : scope.kind = .function) : codeAny (model prog w) A (.call (.ref f) args) R s := (by exact use_of : Use _ (by
 first
 | (
  obtain ⟨FG, BG, st, DG, lv⟩ := groundT (R := R) B F N hA hf hke D
  have ho' := (X₀.keeps F.keep) _ _ ho
  refine codeAny_call_function hroom ho' rfl hco hgen rfl (codeRec_of (X₀.keeps F.keep) hcd) (hbind _ _ _ _ ?_)
  refine wpAny_newFunctionEnv_cells hk (kindsX hkind _) fun env' he s' x => ?_
  subst he
  refine ⟨(T.nolimit.keeps F.keep).keeps x.toInCall.keep, codeAny_func ?_⟩
  obtain ⟨h₁, tk, rfl, _⟩ := x.done
  have hk₁ := x.toInCall.keep
  obtain ⟨cells, NC, Y⟩ := Cl.news (h₀ := s.heap) (Nat.le_refl _) fun n c hm => ⟨x.cell n c (lookup_of_mem_nodup (cellsFrom_names scope.names 0 (s.heap.objs.size + 1) [] [] rfl ▸ hnd) hm), x.above n c hm⟩
  refine wpAny_mono (h _ s.heap.objs.size h₁ tk cells FG ⟨x.toInCall.ns, fun b o e => hk₁ b o (of_hideAll _ e), Nat.le_of_eq (hideAll_size _ _)⟩ (fun p hp => ?_) Y BG (X₀.keeps st) (T.keeps st) DG (fun p hp => Heap.lt_size (N p hp).1)) (fun fl s' hl => lv _ _ hl) fun _ _ y => y
  rcases List.mem_append.mp hp with hp | hp
  · refine ⟨(NC p hp).1, (NC p hp).2.1, ?_⟩
    cases q : (hideAll s.heap (news.map (·.1))).get? p.1 with
    | none => rfl
    | some o => have := of_hideAll _ q; rw [(NC p hp).2.2] at this; cases this
  · exact ⟨hk₁ _ _ (N p hp).1, Nat.ne_of_lt (Heap.lt_size (N p hp).1), hideAll_none _ (List.mem_map_of_mem hp)⟩)
 | fail))
end
end turn
end
section
set_option maxHeartbeats 800000
section rev
open PySem PySem.Builtin KBy
def revOf (b : Array UInt8) : Array UInt8 := Bytes.sliced b (sliceBounds none none (some (-1)) b.size).1 (sliceBounds none none (some (-1)) b.size).2.1 (sliceBounds none none (some (-1)) b.size).2.2
theorem meets_rev (b : Array UInt8) (t ts : Tok) (a : Addr) :
    Meets («bytes.__getitem__» ⟨[.bytes b t, .ref a], []⟩) (fun _ R s => s.heap.IsSliceOf a .none .none (.int (-1) ts) ∧ (revOf b).size ≤ sizeLine ∧ R (.ok (.ret (.bytes (revOf b) s.toks))) { s with toks := s.toks + 1 }) := (by exact use_of : Use _ (by
 first
 | (
  refine .of_wp fun prog w A R s hS => ?_
  obtain ⟨⟨o, ho, hc, hd⟩, hsz, h⟩ := hS
  have hT : s.TypeIs (.ref a) "slice" := ⟨o, ho, hc⟩
  show wpAny _ _ (Bytes.payload (.bytes b t) >>= fun r => _) _ _ s
  refine wpAny_bind (wpAny_of_eq (a := b) rfl ?_)
  show wpAny _ _ (Bytes.subscript? (.ref a) >>= fun r => _) _ _ s
  refine wpAny_bind ?_
  unfold Bytes.subscript?
  refine wpAny_bind (wpAny_specialOf hT slice_no_index (wpAny_pure ?_))
  refine wpAny_bind (wpAny_typeOf hT ?_)
  show wpAny _ _ (Bytes.sliceParts (.ref a) >>= fun r => _) _ _ s
  refine wpAny_bind ?_
  unfold Bytes.sliceParts
  refine wpAny_bind (wpAny_field (x := .int (-1) ts) ho hd rfl ?_)
  kby_int
  refine wpAny_ite (ite_no (show ¬ ((rawInt (-1) == rawInt 0) = true) from by decide) ?_)
  refine wpAny_bind (wpAny_field (x := .none) ho hd rfl ?_)
  kby_none
  refine wpAny_bind (wpAny_field (x := .none) ho hd rfl ?_)
  kby_none
  refine wpAny_pure ?_
  have go : wpAny (model prog w) A.in1 (sliceIndices (rawPart none) (rawPart none) (rawPart (some (-1))) b.size) (fun r s' => r = sliceBounds none none (some (-1)) b.size ∧ s' = s) (fun _ _ => False) s :=
    wpAny_of_eq (sliceIndices_raw none none (some (-1)) b.size (fun e => by cases e)) ⟨rfl, rfl⟩
  refine wpAny_bind (wpAny_mono go (fun r s' hr => ?_) fun _ _ e => e.elim)
  obtain ⟨hr1, hr2⟩ := hr
  subst hr1 hr2
  refine wpAny_ite (ite_no ?_ ?_)
  · simp
  exact wpAny_bind (wpAny_mkBytes (wpAny_pure ⟨_, rfl, h⟩) hsz))
 | fail))
end rev
end
section
set_option maxHeartbeats 800000
section rev
open PySem
theorem rev2 {b : Array UInt8} {b0 b1 : Int} (hb : KBw.bInts b = [b0, b1]) : KBw.bInts (revOf b) = [b1, b0] := by
  obtain ⟨l⟩ := b
  change l.map (fun c : UInt8 => (c.toNat : Int)) = _ at hb
  match l, hb with
  | [c0, c1], hb =>
    simp only [List.map_cons, List.map_nil, List.cons.injEq, and_true] at hb
    obtain ⟨rfl, rfl⟩ := hb
    kernel_rfl
theorem rev4 {b : Array UInt8} {b0 b1 b2 b3 : Int} (hb : KBw.bInts b = [b0, b1, b2, b3]) : KBw.bInts (revOf b) = [b3, b2, b1, b0] := by
  obtain ⟨l⟩ := b
  change l.map (fun c : UInt8 => (c.toNat : Int)) = _ at hb
  match l, hb with
  | [c0, c1, c2, c3], hb =>
    simp only [List.map_cons, List.map_nil, List.cons.injEq, and_true] at hb
    obtain ⟨rfl, rfl, rfl, rfl⟩ := hb
    kernel_rfl
theorem rev6 {b : Array UInt8} {b0 b1 b2 b3 b4 b5 : Int} (hb : KBw.bInts b = [b0, b1, b2, b3, b4, b5]) : KBw.bInts (revOf b) = [b5, b4, b3, b2, b1, b0] := by
  obtain ⟨l⟩ := b
  change l.map (fun c : UInt8 => (c.toNat : Int)) = _ at hb
  match l, hb with
  | [c0, c1, c2, c3, c4, c5], hb =>
    simp only [List.map_cons, List.map_nil, List.cons.injEq, and_true] at hb
    obtain ⟨rfl, rfl, rfl, rfl, rfl, rfl⟩ := hb
    kernel_rfl
end rev
end
section
set_option maxHeartbeats 800000
section rev
open PySem PySem.Builtin KBy
section
variable {prog : Program} {w : World} {A : Around} {E : Value → Shared → Prop} {s : Shared} {Q : Value → Shared → Prop}
theorem rev_K {value slice : PySem.Expr} {b : Array UInt8} {tb ts : Tok} {r : List Int} {h₀ : Heap} {L : Addr} {m : Str → Option Value} {news : Led} (hF : Fr h₀ L s.heap m) (hN : News h₀ L s.heap news) (hk : KBw.bInts (revOf b) = r) (hz : r.length ≤ 16777216)
    (h : ∀ b2 h' t' n, Fr h₀ L h' m → News h₀ L h' news → KBw.bInts b2 = r → Q (.bytes b2 t') { s with heap := h', toks := n })
    (hs : subscripted slice false (.bytes b tb) (.ref s.heap.objs.size) = operate [.ref s.heap.objs.size, .bytes b tb] (getItem (.bytes b tb) (.ref s.heap.objs.size)) := by with_unfolding_all rfl)
    (ht : ∀ r, letTemporaryGo value (.bytes b tb) r = pure () := by intro _; with_unfolding_all rfl) :
    wpAny (model prog w) A (subscriptTail value slice (.bytes b tb) (.ref s.heap.objs.size)) Q E { s with heap := s.heap.push { cls := .type "slice", data := .fields #[.none, .none, .int (-1) ts] } } :=
  tail_of_ItemOn ⟨"bytes", _, FB.slot_bytes_getitem.lookup, typeIs_bytes _ _ _, getItem_meets (typeIs_bytes _ _ _) (by decide) FB.slot_bytes_getitem FB.entry_bytes_getitem (FB.args_bytes_getitem_2 _ _) (meets_rev b tb ts _)
    ⟨Heap.IsSliceOf.new _ _ _ _, by rw [← KBw.ints_length, hk, sizeLine_eq]; exact hz, h _ _ _ _ (hF.push _) (News.pushKeep hN _) hk⟩⟩ hs ht
end
end rev
end
section
set_option maxHeartbeats 2000000
section enum
open PySem PySem.Builtin KBw PyProof.Rows.LCg
section
variable {prog : Program} {w : World} {A : Around} {E : Value → Shared → Prop} {s : Shared} {b : Array UInt8} {t : Tok}
/-- the next octet, as enumerate asks for it -/
theorem en_octet {it : Addr} {i : Nat} {c : UInt8} {Q : Value → Shared → Prop} (hit : IsBytesIter s.heap it b t i) (hx : b[i]? = some c)
    (hQ : ∀ h', IsBytesIter h' it b t (i + 1) → Heap.SameBut it s.heap h' → Q (.int (c.toNat : Int) s.toks) { s with heap := h', toks := s.toks + 1 }) :
    wpAny (model prog w) A (Builtin.SmallTypes.nextOf (.ref it)) Q E s := by
  obtain ⟨o, ho, hc, hd⟩ := id hit
  unfold Builtin.SmallTypes.nextOf
  refine wpAny_bind (wpAny_callSpecial?_slot (name := PySem.Str.ofString "__next__") (iter_typeIs hit) slot_next (wpAny_call_entry slot_next (iter_typeIs hit) entry_next ?_ (args_next _)))
  show wpAny _ _ (field (.ref it) 0 >>= _) _ _ s
  refine wpAny_bind (wpAny_field ho hd (x := .bytes b t) rfl ?_)
  show wpAny _ _ (if (Value.bytes b t == Value.none) = true then _ else _) _ _ s
  rw [if_neg (show ¬ ((Value.bytes b t == Value.none) = true) from Bool.false_ne_true)]
  show wpAny _ _ (field (.ref it) 1 >>= _) _ _ s
  refine wpAny_bind (wpAny_field ho hd (x := .int i 0) rfl (wpAny_bind (wpAny_of_eq (a := b) rfl ?_)))
  simp only [Int.toNat_natCast, hx]
  refine wpAny_bind (wpAny_setField ho hd (by simp) (wpAny_bind (wpAny_mkInt (wpAny_pure ⟨_, rfl, wpAny_pure (hQ _ ?_ (Heap.SameBut.update ..))⟩))))
  exact ⟨_, Heap.get?_update_self _ ho (Obj.isFreed_of_fields (Obj.data_mapFields hd _)), (Obj.cls_mapFields ..).trans hc, by rw [Obj.data_mapFields hd]; simp [rawInt]⟩
theorem en_over {it : Addr} {i : Nat} {Q : Value → Shared → Prop} (hh : A.handled = none) (hit : IsBytesIter s.heap it b t i) (hx : b[i]? = none)
    (hE : ∀ h' e, Heap.ExtBut it s.heap h' → (∃ o, h'.get? e = some o ∧ o.cls = .type "StopIteration") → E (.ref e) { s with heap := h' }) :
    wpAny (model prog w) A (Builtin.SmallTypes.nextOf (.ref it)) Q E s := (by exact use_of : Use _ (by
 first
 | (
  obtain ⟨o, ho, hc, hd⟩ := id hit
  unfold Builtin.SmallTypes.nextOf
  refine wpAny_bind (wpAny_callSpecial?_slot (name := PySem.Str.ofString "__next__") (iter_typeIs hit) slot_next (wpAny_call_entry slot_next (iter_typeIs hit) entry_next ?_ (args_next _)))
  show wpAny _ _ (field (.ref it) 0 >>= _) _ _ s
  refine wpAny_bind (wpAny_field ho hd (x := .bytes b t) rfl ?_)
  show wpAny _ _ (if (Value.bytes b t == Value.none) = true then _ else _) _ _ s
  rw [if_neg (show ¬ ((Value.bytes b t == Value.none) = true) from Bool.false_ne_true)]
  show wpAny _ _ (field (.ref it) 1 >>= _) _ _ s
  refine wpAny_bind (wpAny_field ho hd (x := .int i 0) rfl (wpAny_bind (wpAny_of_eq (a := b) rfl ?_)))
  simp only [Int.toNat_natCast, hx]
  refine wpAny_bind (wpAny_rule (wpAny_bind (wpAny_setField ho hd (by simp) ?_)))
  show wpAny _ _ (newExc (.type "StopIteration") [] >>= _) _ _ _
  refine wpAny_bind ?_
  simp only [newExc, newTuple]
  refine wpAny_bind (wpAny_newObj_type (wpAny_bind (m := firstArgMember _ _) (wpAny_of_eq (a := Value.none) (by first | rfl | (simp only [firstArgMember]; rfl)) (wpAny_newObj_type ?_ (by size_fits)))) (by size_fits))
  simp only [raiseNew]
  refine wpAny_bind (wpAny_handled ?_)
  first | rw [show A.in1.handled = none from hh] | rw [hh]
  refine wpAny_bind (wpAny_pure (wpAny_throw ?_))
  exact hE _ _ (((Heap.SameBut.update ..).extBut.push _).push _) ⟨_, Heap.get?_push_size _ rfl, rfl⟩)
 | fail))

theorem en_item {e it : Addr} {i : Nat} {c : UInt8} {old : Value} {Q : Option Value → Shared → Prop} (he : IsEnum s.heap e it i old) (hit : IsBytesIter s.heap it b t i) (hx : b[i]? = some c) (hne : e ≠ it)
    (hQ : ∀ h' T ti tx tk, IsEnumOut h' e it ((i : Int) + 1) (.int (c.toNat : Int) tx) T → IsBytesIter h' it b t (i + 1) → h'.IsTuple T #[.int i ti, .int (c.toNat : Int) tx] → T ≠ e → T ≠ it →
      (∀ b o, b ≠ e → b ≠ it → s.heap.get? b = some o → h'.get? b = some o) → Q (some (.ref T)) { s with heap := h', toks := tk }) :
    wpAny (model prog w) A (pyNext (.ref e)) Q E s := (by exact use_of : Use _ (by
 first
 | (
  have hT : s.TypeIs (.ref e) "enumerate" := ⟨_, he, rfl⟩
  unfold pyNext
  refine wpAny_bind (wpAny_attempt (wpAny_callSpecial?_slot (name := PySem.Str.ofString "__next__") hT F.slot_enumerate_next (wpAny_call_entry F.slot_enumerate_next hT F.entry_enumerate_next ?_ (F.args_enumerate_next_1 _))))
  show wpAny _ _ (field (.ref e) 2 >>= _) _ _ _
  refine wpAny_bind (wpAny_field he rfl (x := .ref it) rfl (wpAny_bind (en_octet hit hx fun h₁ it₁ s₁ => ?_)))
  have lt_e : e < s.heap.objs.size := Heap.lt_size he
  have lt_i : it < s.heap.objs.size := by obtain ⟨_, q, _⟩ := hit; exact Heap.lt_size q
  have e₁ : IsEnum h₁ e it i old := (s₁.2 e hne).trans he
  refine wpAny_bind (wpAny_field e₁ rfl (x := rawInt i) rfl (wpAny_bind (wpAny_field e₁ rfl (x := .none) rfl ?_)))
  show wpAny _ _ (mkInt i >>= _) _ _ _
  refine wpAny_bind (wpAny_mkInt ?_)
  show wpAny _ _ (setField (.ref e) 3 (rawInt ((i : Int) + 1)) >>= _) _ _ _
  refine wpAny_bind (wpAny_setField_rec e₁ (by simp) fun h₂ e₂ s₂ => ?_)
  replace e₂ : IsEnum h₂ e it ((i : Int) + 1) old := e₂
  show wpAny _ _ (setField (.ref e) 4 .none >>= _) _ _ _
  refine wpAny_bind (wpAny_setField_rec e₂ (by simp) fun h₃ e₃ s₃ => ?_)
  replace e₃ : IsEnum h₃ e it ((i : Int) + 1) old := e₃
  show wpAny _ _ (newTuple [.int i _, .int (c.toNat : Int) _] >>= _) _ _ _
  refine wpAny_bind (wpAny_newTuple ?_)
  dsimp only at *
  have z₃ : h₃.objs.size = s.heap.objs.size := by rw [s₃.1, s₂.1, s₁.1]
  have k₃ : ∀ b o, b ≠ e → b ≠ it → s.heap.get? b = some o → h₃.get? b = some o := fun b o p q y => s₃.extBut b o p (s₂.extBut b o p (s₁.extBut b o q y))
  have i₃ : IsBytesIter h₃ it b t (i + 1) := by obtain ⟨o, y, r⟩ := it₁; exact ⟨o, s₃.extBut _ _ (Ne.symm hne) (s₂.extBut _ _ (Ne.symm hne) y), r⟩
  generalize hT' : ({ cls := .type "tuple", data := .seq #[.int i (s.toks + 1), .int (c.toNat : Int) s.toks] } : Obj) = oT
  have e₄ : IsEnum (h₃.push oT) e it ((i : Int) + 1) old := Heap.get?_push_of_some _ e₃
  have k₄ : ∀ b o, b ≠ e → b ≠ it → s.heap.get? b = some o → (h₃.push oT).get? b = some o := fun b o p q y => Heap.get?_push_of_some _ (k₃ b o p q y)
  have i₄ : IsBytesIter (h₃.push oT) it b t (i + 1) := by obtain ⟨o, y, r⟩ := i₃; exact ⟨o, Heap.get?_push_of_some _ y, r⟩
  have t₄ : (h₃.push oT).get? s.heap.objs.size = some oT := by rw [← z₃]; exact Heap.get?_push_size _ (by rw [← hT']; rfl)
  rw [z₃]
  have nTe : s.heap.objs.size ≠ e := Nat.ne_of_gt lt_e
  have nTi : s.heap.objs.size ≠ it := Nat.ne_of_gt lt_i
  generalize h₃.push oT = h₄ at e₄ k₄ i₄ t₄ ⊢
  refine wpAny_bind ?_
  unfold Builtin.SmallTypes.ownedTupleIsFree
  refine wpAny_bind (wpAny_field e₄ rfl (x := .none) rfl (wpAny_pure ?_))
  simp only [if_true]
  refine wpAny_bind (wpAny_rule (wpAny_bind (wpAny_field e₄ rfl (x := old) rfl (wpAny_bind (wpAny_setField_rec e₄ (by simp) fun h₅ e₅ s₅ => ?_)))))
  replace e₅ : IsEnum h₅ e it ((i : Int) + 1) (.int (c.toNat : Int) s.toks) := e₅
  refine wpAny_bind ?_
  unfold Builtin.SmallTypes.ownedTupleHandOut
  refine wpAny_bind (wpAny_setField_rec e₅ (by simp) fun h₆ e₆ s₆ => ?_)
  replace e₆ : IsEnumOut h₆ e it ((i : Int) + 1) (.int (c.toNat : Int) s.toks) s.heap.objs.size := e₆
  refine wpAny_setField_rec e₆ (by simp) fun h₇ e₇ s₇ => ?_
  replace e₇ : IsEnumOut h₇ e it ((i : Int) + 1) (.int (c.toNat : Int) s.toks) s.heap.objs.size := e₇
  have k₇ : ∀ b o, b ≠ e → h₄.get? b = some o → h₇.get? b = some o := fun b o p y => s₇.extBut b o p (s₆.extBut b o p (s₅.extBut b o p y))
  refine wpAny_bind (wpAny_letGo (wpAny_pure ⟨_, rfl, wpAny_pure (hQ h₇ _ (s.toks + 1) s.toks _ e₇ ?_ ?_ nTe nTi fun b o p q y => k₇ b o p (k₄ b o p q y))⟩))
  · obtain ⟨o, y, r⟩ := i₄; exact ⟨o, k₇ _ _ (Ne.symm hne) y, r⟩
  · exact ⟨oT, k₇ _ _ nTe t₄, by rw [← hT'], _, by rw [← hT']⟩)
 | fail))
theorem en_end {e it : Addr} {i : Nat} {old : Value} {Q : Option Value → Shared → Prop} (hh : A.handled = none) (he : IsEnum s.heap e it i old) (hit : IsBytesIter s.heap it b t i) (hx : b[i]? = none)
    (hQ : ∀ h', Heap.ExtBut it s.heap h' → Q none { s with heap := h' }) : wpAny (model prog w) A (pyNext (.ref e)) Q E s := by
  have hT : s.TypeIs (.ref e) "enumerate" := ⟨_, he, rfl⟩
  unfold pyNext
  refine wpAny_bind (wpAny_attempt (wpAny_callSpecial?_slot (name := PySem.Str.ofString "__next__") hT F.slot_enumerate_next (wpAny_call_entry F.slot_enumerate_next hT F.entry_enumerate_next ?_ (F.args_enumerate_next_1 _))))
  show wpAny _ _ (field (.ref e) 2 >>= _) _ _ _
  refine wpAny_bind (wpAny_field he rfl (x := .ref it) rfl (wpAny_bind (en_over hh hit hx fun h' x he' hx' => ?_)))
  obtain ⟨o, ho, hc⟩ := hx'
  exact wpAny_bind (wpAny_isInstance (T := "StopIteration") (b := true) ⟨o, ho, hc⟩ isSubtype_stop (wpAny_pure (hQ _ he')))
/-- the turns of enumerate over bytes -/
theorem en_turns {elts : List PySem.Expr} {k : Nat} {pos : Pos} (hh : A.handled = none) (e it : Addr) (hne : e ≠ it) (b : Array UInt8) (t : Tok) :
    KTurns prog w A (.Tuple elts k pos) e [e, it] [e, it] b.size (fun i v h => ∃ T ti tx c, v = .ref T ∧ b[i]? = some c ∧ h.IsTuple T #[.int i ti, .int (c.toNat : Int) tx])
      (fun i v h => ∃ T ti tx c, v = .ref T ∧ b[i]? = some c ∧ h.IsTuple T #[.int i ti, .int (c.toNat : Int) tx] ∧ T ≠ e ∧ T ≠ it ∧ IsEnumOut h e it ((i : Int) + 1) (.int (c.toNat : Int) tx) T ∧ IsBytesIter h it b t (i + 1))
      (fun i h => (∃ old, IsEnum h e it i old) ∧ IsBytesIter h it b t i) where
  sub := fun _ hb => hb
  frame := fun i h h' st hk => by
    obtain ⟨⟨old, he⟩, o, ho, r⟩ := st
    exact ⟨⟨old, hk e (by simp) _ he⟩, o, hk it (by simp) _ ho, r⟩
  item := fun i s Q E hi st hQ => by
    obtain ⟨⟨old, he⟩, hit⟩ := st
    refine en_item he hit (c := b[i]) (by simp [hi]) hne fun h' T ti tx tk a1 a2 a3 a4 a5 a6 => ?_
    exact hQ _ h' tk ⟨T, ti, tx, b[i], rfl, by simp [hi], a3, a4, a5, a1, a2⟩ fun b o hb y => a6 b o (fun q => hb (by simp [q])) (fun q => hb (by simp [q])) y
  go := fun i v s Q E hm hQ => by
    obtain ⟨T, ti, tx, c, rfl, hc, hT, n1, n2, ho, hit⟩ := hm
    refine wpAny_letOwnedTupleGo_enum ho fun h' he' hs' => hQ h' ⟨T, ti, tx, c, rfl, hc, hT.at fun o y => (hs'.2 T n1).trans y⟩ ⟨⟨_, by simpa using he'⟩, ?_⟩ fun b o hb y => (hs'.2 b fun q => hb (by simp [q])).trans y
    obtain ⟨o, y, r⟩ := hit
    exact ⟨o, (hs'.2 it (Ne.symm hne)).trans y, r⟩
  done := fun s Q E st hQ => by
    obtain ⟨⟨old, he⟩, hit⟩ := st
    exact en_end hh he hit (by simp) fun h' hx => hQ h' s.toks fun b o hb y => hx b o (fun q => hb (by simp [q])) y
theorem meets_enum_bytes (b : Array UInt8) (t : Tok) :
    Meets (Builtin.«enumerate.__new__» ⟨[.type "enumerate", .bytes b t], []⟩) (fun _ R s =>
      R (.ok (.ret (.ref (s.heap.push { cls := .type "bytes_iterator", data := .fields #[.bytes b t, .int 0 0] }).objs.size)))
        { s with heap := (s.heap.push { cls := .type "bytes_iterator", data := .fields #[.bytes b t, .int 0 0] }).push { cls := .type "enumerate", data := .fields #[.none, .bool false, .ref s.heap.objs.size, rawInt 0, .none, .none] } }) :=
  .of_wp fun prog w A R s h => by
    obtain ⟨hp, g, d, tk, os⟩ := s
    have hsub := sub_enumerate
    wp_walk
    refine wpAny_stack_any fun st => wpAny_pure ?_
    split
    · rename_i c _ _ _ _ _
      cases (c == Value.type "enumerate")
      · wp_walk using pyIter_bytes
        exact ⟨_, rfl, h⟩
      · wp_walk using pyIter_bytes
        exact ⟨_, rfl, h⟩
    · wp_walk using pyIter_bytes
      exact ⟨_, rfl, h⟩
theorem call_enum_bytes {Q : Value → Shared → Prop}
    (h : ∀ h', IsEnum h' (s.heap.objs.size + 1) s.heap.objs.size 0 .none → IsBytesIter h' s.heap.objs.size b t 0 → h'.objs.size = s.heap.objs.size + 2 →
      (∀ b o, s.heap.get? b = some o → h'.get? b = some o) → Q (.ref (s.heap.objs.size + 1)) { s with heap := h' }) :
    wpAny (model prog w) A (call (.type "enumerate") [.bytes b t]) Q E s := by
  refine callType_new F.called_enumerate (by decide) (F.typeCall_enumerate_1 _) (F.newCall_enumerate_1 _) (fun obj => F.args_object_init_2 obj _) F.entry_enumerate_new (meets_enum_bytes b t) ?_
  generalize hI : ({ cls := .type "bytes_iterator", data := .fields #[.bytes b t, .int 0 0] } : Obj) = oI
  have hz : (s.heap.push oI).objs.size = s.heap.objs.size + 1 := Heap.size_push ..
  show _ ∧ _
  rw [hz]
  have he : IsEnum ((s.heap.push oI).push { cls := .type "enumerate", data := .fields #[.none, .bool false, .ref s.heap.objs.size, rawInt 0, .none, .none] }) (s.heap.objs.size + 1) s.heap.objs.size 0 .none := by
    have := Heap.get?_push_size (s.heap.push oI) (o := { cls := .type "enumerate", data := .fields #[.none, .bool false, .ref s.heap.objs.size, rawInt 0, .none, .none] }) rfl
    rw [hz] at this; exact this
  exact ⟨⟨_, he, rfl⟩, h _ he ⟨oI, Heap.get?_push_of_some _ (Heap.get?_push_size _ (by rw [← hI]; rfl)), by rw [← hI], by rw [← hI]; rfl⟩ (by rw [Heap.size_push, hz]) fun b o x => Heap.get?_push_of_some _ (Heap.get?_push_of_some _ x)⟩
end
end enum
end
section
set_option maxHeartbeats 2000000
section comp
open PyProof.Rows.LCg
section
variable {prog : Program} {w : World} {A : Around} {E : Value → Shared → Prop} {s : Shared} {h₀ : Heap} {L : Addr} {m : Str → Option Value} {env : Env}
/-- what is left to do of a list's comprehension over enumerate -/
def McE (prog : Program) (w : World) (A : Around) (h₀ : Heap) (L : Addr) (m : Str → Option Value) (env : Env) (elt : PySem.Expr) (scope : Scope) (cl : List (Str × Addr)) (s : Shared) (Fin : List Value → Led → Prop) (news : Led) : List Asg → List Value → Prop
  | [], ys => Fin ys news
  | asg :: r, ys => ∀ I oI J oJ C oC D m₂ h tk (E' : Value → Shared → Prop), NsObj oC m₂ → asg m₂ → Fr h₀ L h m → News h₀ L h ((I, oI) :: (C, oC) :: (D, lst ys) :: (J, oJ) :: news) → Off3 I C D ((J, oJ) :: news) → ((@Ne Nat I C) ∧ (@Ne Nat I D) ∧ (@Ne Nat C D)) →
      wpAny (model prog w) A (eval elt (compEnvC scope cl C env)) (CompEnd h₀ L m { s with heap := h, toks := tk } I oI C oC D (lst ys) (fun _ => True) (fun y news' => news' = (J, oJ) :: news ∧ McE prog w A h₀ L m env elt scope cl s Fin news r (ys ++ [y]))) E' { s with heap := h, toks := tk }
inductive BlkE (prog : Program) (w : World) (A : Around) (h₀ : Heap) (L : Addr) (m : Str → Option Value) (env : Env) (elt : PySem.Expr) (scope : Scope) (cl : List (Str × Addr)) (s₂ : Shared) (n : Nat) (St : Nat → Heap → Prop) (Fin : List Value → Led → Prop) (news : Led) (items : List Asg) (D C : Addr) (k : Nat) (s' : Shared) : Prop
  | mk (h' : Heap) (tk : Nat) (i : Nat) (ys : List Value) (m' : Str → Option Value) (c0 : s' = { s₂ with heap := h', toks := tk }) (c1 : i ≤ n) (c2 : k = n + 1 - i) (c3 : ys.length ≤ i) (c4 : St i h') (c5 : Fr h₀ L h' m) (c6 : h'.Ns C m') (c7 : News h₀ L h' ((D, lst ys) :: news)) (c8 : McE prog w A h₀ L m env elt scope cl s₂ Fin news (items.drop i) ys)
theorem mc_blockE {elt iter target : PySem.Expr} {scope : Scope} {cl : List (Str × Addr)} {pos : Pos} {s₂ : Shared} {I J : Addr} {n : Nat} {P Md : Nat → Value → Heap → Prop} {St : Nat → Heap → Prop} {news : Led} {items : List Asg}
    {Fin : List Value → Led → Prop} {RR : Value → Addr → Result → Shared → Prop}
    (W : KTurns prog w A target I [I, J] [I, J] n P Md St) (hself : ∀ (s : Shared) (Q : Value → Shared → Prop) (E : Value → Shared → Prop), St 0 s.heap → Q (.ref I) s → wpAny (model prog w) A (pyIter (.ref I)) Q E s)
    (hsz : n ≤ sizeLine) (hlen : items.length = n) (hIo : ∀ i h, St i h → ∃ o, h.get? I = some o) (hJo : ∀ i h, St i h → ∃ o, h.get? J = some o)
    (hasg : ∀ i v (C : Addr) (m' : Str → Option Value) asg (s' : Shared) (Q' : Unit → Shared → Prop) (E' : Value → Shared → Prop), items[i]? = some asg → P i v s'.heap → s'.heap.Ns C m' → (∀ b o, h₀.get? b = some o → s'.heap.get? b = some o) →
      (∀ h' tk m₂, h'.Ns C m₂ → asg m₂ → (∀ c o, c ≠ C → s'.heap.get? c = some o → h'.get? c = some o) → Q' () { s' with heap := h', toks := tk }) → wpAny (model prog w) A (assign target (compEnvC scope cl C env) v) Q' E' s')
    (hcell : ∀ y ∈ scope.names, y.2 ≠ .cell) (hkind : scope.kind = .function) (hst : St 0 s₂.heap) (hfp : ∀ b ∈ [I, J], b < s₂.heap.objs.size)
    (F : Fr h₀ L s₂.heap m) (N : News h₀ L s₂.heap news) (hIL : L ≠ I) (hI₀ : h₀.get? I = none) (hJL : L ≠ J) (hJ₀ : h₀.get? J = none) (hIJ : I ≠ J) (off : ∀ p ∈ news, p.1 ≠ I) (offJ : ∀ p ∈ news, p.1 ≠ J)
    (R : McE prog w A h₀ L m env elt scope cl s₂ Fin news items [])
    (hRR : ∀ D C h tk m' ys, Fr h₀ L h m → News h₀ L h ((D, lst ys) :: news) → Off1 D news → h.Ns C m' → h₀.get? C = none → h₀.get? D = none → C ≠ L → D ≠ L → C ≠ D → (∀ p ∈ news, p.1 ≠ C) → Fin ys news → RR (.ref D) C (.ok .next) { s₂ with heap := h, toks := tk }) :
    wpAny (model prog w) A (newList []) (fun acc s₃ => wpAny (model prog w) A (newFunctionEnv scope env.globals cl [] env.qual none .none (some env)) (fun cenv s₄ =>
      codeAny (model prog w) A (.compStart (.ListComp elt [⟨target, iter, [], 0⟩] scope pos) 0 (.ref I) acc { cenv with scope := relabel scope env }) (RR acc cenv.locals) s₄) E s₃) E s₂ := (by exact use_of : Use _ (by
 first
 | (
  refine wpAny_newObj_type (wpAny_newFunctionEnv hcell (by intro y hy; simp at hy) (fun h₁ hns₁ hsb₁ => ?_) hkind)
  dsimp only at hns₁ hsb₁ ⊢
  generalize hH2 : s₂.heap.push { cls := .type "list", dict := none, data := .seq ([] : List Value).toArray } = H2 at hns₁ hsb₁ ⊢
  have hC : H2.objs.size = s₂.heap.objs.size + 1 := by rw [← hH2, Heap.size_push]
  have hDC : s₂.heap.objs.size ≠ H2.objs.size := by rw [hC]; exact Nat.ne_of_lt (Nat.lt_succ_self _)
  have below : ∀ b, b < s₂.heap.objs.size → b ≠ H2.objs.size ∧ b ≠ s₂.heap.objs.size := fun b hb => ⟨by rw [hC]; exact Nat.ne_of_lt (Nat.lt_succ_of_lt hb), Nat.ne_of_lt hb⟩
  have hDf : s₂.heap.objs.size ∉ [I, J] := fun hm => Nat.lt_irrefl _ (hfp _ hm)
  have hCf : H2.objs.size ∉ [I, J] := fun hm => by have := hfp _ hm; rw [hC] at this; exact Nat.lt_irrefl _ (Nat.lt_of_succ_lt this)
  have hIlt : I < s₂.heap.objs.size := hfp I (by simp)
  have hJlt : J < s₂.heap.objs.size := hfp J (by simp)
  have old : ∀ b o, s₂.heap.get? b = some o → h₁.get? b = some o := fun b o e => hsb₁.extBut b o (below b (Heap.lt_size e)).1 (Heap.get?_push_of_some _ (hH2 ▸ Heap.get?_push_of_some _ e))
  have hacc : h₁.get? s₂.heap.objs.size = some (lst []) := hsb₁.extBut _ _ hDC (Heap.get?_push_of_some _ (hH2 ▸ Heap.get?_push_size _ rfl))
  have hst₁ : St 0 h₁ := W.frame _ _ _ hst fun b _ o e => old b o e
  have fresh : ∀ a, s₂.heap.objs.size ≤ a → s₂.heap.get? a = none := fun a ha => by
    cases e : s₂.heap.get? a with
    | none => rfl
    | some o' => exact absurd (Heap.lt_size e) (Nat.not_lt.mpr ha)
  have fresh₀ : ∀ a, s₂.heap.objs.size ≤ a → h₀.get? a = none := fun a ha => by
    cases e : h₀.get? a with
    | none => rfl
    | some o' => have := F.keep a o' e; rw [fresh a ha] at this; cases this
  have hD₀ : h₀.get? s₂.heap.objs.size = none := fresh₀ _ (Nat.le_refl _)
  have hC₀ : h₀.get? H2.objs.size = none := fresh₀ _ (by rw [hC]; exact Nat.le_succ _)
  have hLlt : L < s₂.heap.objs.size := F.ns.lt
  have hDL : s₂.heap.objs.size ≠ L := Ne.symm (below L hLlt).2
  have hCL : H2.objs.size ≠ L := Ne.symm (below L hLlt).1
  have hCI : I ≠ H2.objs.size := (below I hIlt).1
  have hDI : I ≠ s₂.heap.objs.size := (below I hIlt).2
  have hCJ : J ≠ H2.objs.size := (below J hJlt).1
  have hDJ : J ≠ s₂.heap.objs.size := (below J hJlt).2
  have off₀ : Off3 I H2.objs.size s₂.heap.objs.size news := Off3.of fun p hp => ⟨off p hp, (below _ (Heap.lt_size (N p hp).1)).1, (below _ (Heap.lt_size (N p hp).1)).2⟩
  have loop : ∀ s₃ : Shared, s₃ = { s₂ with heap := h₁, toks := s₂.toks + ([] : List (Str × Value)).length } →
      codeAny (model prog w) A (.compLoop (.ListComp elt [⟨target, iter, [], 0⟩] scope pos) 0 (.ref I) (.ref s₂.heap.objs.size) (compEnvC scope cl H2.objs.size env))
        (RR (.ref s₂.heap.objs.size) H2.objs.size) s₃ := by
    rintro s₃ rfl
    have off3 := off₀.mem
    refine mc_loopL
      (fun k s' => BlkE prog w A h₀ L m env elt scope cl s₂ n St Fin news items s₂.heap.objs.size H2.objs.size k s') ?_ (n + 1)
      ⟨h₁, _, 0, [], _, rfl, Nat.zero_le _, rfl, Nat.le_refl _, hst₁, F.keeps old, hns₁, fun p hp => ?_, by rw [List.drop_zero]; exact R⟩
    · rintro k s' ⟨h', tk, i, ys, m', rfl, hi, rfl, hyl, hst', F', hn', N', R'⟩
      by_cases hlt : i < n
      · refine W.item i _ _ _ hlt hst' fun v h₂ tk₂ hMd hk₂ => ?_
        refine W.go i v _ _ _ hMd fun h₃ hP hst₃ hk₃ => ?_
        have up₃ : ∀ c o, c ≠ I → c ≠ J → h'.get? c = some o → h₃.get? c = some o := fun c o hc hj e => hk₃ c o (by simp [hc, hj]) (hk₂ c o (by simp [hc, hj]) e)
        have hi' : i < items.length := by omega
        refine hasg i v H2.objs.size m' items[i] { s₂ with heap := h₃, toks := tk₂ } _ _ (List.getElem?_eq_getElem hi') hP (hn'.at' fun o e => up₃ _ o (Ne.symm hCI) (Ne.symm hCJ) e) (fun b o e => up₃ b o (fun q => by rw [q, hI₀] at e; cases e) (fun q => by rw [q, hJ₀] at e; cases e) (F'.keep b o e)) fun h₄ tk₄ m₄ hn₄ hasg4 hs₄ => ?_
        have up : ∀ c o, c ≠ I → c ≠ J → c ≠ H2.objs.size → h'.get? c = some o → h₄.get? c = some o := fun c o h1 hj h2 e => hs₄ c o h2 (up₃ c o h1 hj e)
        have hst₄ : St (i + 1) h₄ := W.frame _ _ _ hst₃ fun b hb o e => hs₄ b o (fun q => hCf (by have q' : b = H2.objs.size := q; rw [← q']; exact hb)) e
        obtain ⟨oI, heI⟩ := hIo _ _ hst₄
        obtain ⟨oJ, heJ⟩ := hJo _ _ hst₄
        obtain ⟨oC, heC, hoC⟩ := ns_obj hn₄
        have F₄ : Fr h₀ L h₄ m := ⟨F'.ns.at' fun o e => up _ o hIL hJL (Ne.symm hCL) e, fun c o e => up c o (fun q => by rw [q, hI₀] at e; cases e) (fun q => by rw [q, hJ₀] at e; cases e) (fun q => by rw [q, hC₀] at e; cases e) (F'.keep c o e), F'.above⟩
        have hdrop : items.drop i = items[i] :: items.drop (i + 1) := List.drop_eq_getElem_cons hi'
        have R'' : McE prog w A h₀ L m env elt scope cl s₂ Fin news (items[i] :: items.drop (i + 1)) ys := by rw [← hdrop]; exact R'
        have N₄ : News h₀ L h₄ ((I, oI) :: (H2.objs.size, oC) :: (s₂.heap.objs.size, lst ys) :: (J, oJ) :: news) := fun q hq => by
          rcases List.mem_cons.mp hq with rfl | hq
          · exact ⟨heI, Ne.symm hIL, hI₀⟩
          · rcases List.mem_cons.mp hq with rfl | hq
            · exact ⟨heC, hCL, hC₀⟩
            · rcases List.mem_cons.mp hq with rfl | hq
              · have z := N' _ List.mem_cons_self
                exact ⟨up _ _ (Ne.symm hDI) (Ne.symm hDJ) hDC z.1, z.2⟩
              · rcases List.mem_cons.mp hq with rfl | hq
                · exact ⟨heJ, Ne.symm hJL, hJ₀⟩
                · have z := N' _ (List.mem_cons_of_mem _ hq)
                  exact ⟨up _ _ (off3 q hq).1 (offJ q hq) (off3 q hq).2.1 z.1, z.2⟩
        have off4 : Off3 I H2.objs.size s₂.heap.objs.size ((J, oJ) :: news) := Off3.of fun p hp => by
          rcases List.mem_cons.mp hp with rfl | hp
          · exact ⟨Ne.symm hIJ, hCJ, hDJ⟩
          · exact off3 p hp
        refine wpAny_tests_nil ?_
        rw [if_pos rfl]
        refine wpAny_mono (R'' I oI J oJ H2.objs.size oC s₂.heap.objs.size _ h₄ _ _ hoC hasg4 F₄ N₄ off4 ⟨hCI, hDI, Ne.symm hDC⟩) (fun y s₅ h₅ => ?_) fun _ _ e => e
        obtain ⟨h₅, tk₅, news₅, rfl, F₅, N₅, off₅, hS₅, rfl, R₅⟩ := h₅
        have zI := (N₅ (I, oI) List.mem_cons_self).1
        have zC := (N₅ (H2.objs.size, oC) (List.mem_cons_of_mem _ List.mem_cons_self)).1
        have zD := (N₅ (s₂.heap.objs.size, lst ys) (List.mem_cons_of_mem _ (List.mem_cons_of_mem _ List.mem_cons_self))).1
        have zJ := (N₅ (J, oJ) (List.mem_cons_of_mem _ (List.mem_cons_of_mem _ (List.mem_cons_of_mem _ List.mem_cons_self)))).1
        have N₅' : News h₀ L h₅ news := fun q hq => N₅ q (List.mem_cons_of_mem _ (List.mem_cons_of_mem _ (List.mem_cons_of_mem _ (List.mem_cons_of_mem _ hq))))
        have hst₅ : St (i + 1) h₅ := W.frame _ _ _ hst₄ fun b hb o e => by
          rcases List.mem_cons.mp hb with rfl | hb
          · rw [heI] at e; cases e; exact zI
          · rw [List.mem_singleton.mp hb, heJ] at e; cases e; rw [List.mem_singleton.mp hb]; exact zJ
        refine append_at (hsz := by show ys.toArray.size ≤ sizeLine; rw [List.size_toArray]; exact Nat.le_trans hyl (Nat.le_trans hi hsz)) zD fun h₆ hs₆ hD₆ => ?_
        refine ⟨n + 1 - (i + 1), by omega, h₆, tk₅, i + 1, ys ++ [y], _, rfl, hlt, rfl, by rw [List.length_append, List.length_singleton]; omega, W.frame _ _ _ hst₅ fun b hb o e => hs₆.extBut b o (fun q => hDf (q ▸ hb)) e, F₅.change hs₆ hDL hD₀,
          (hoC.ns zC).sameBut hs₆ (Ne.symm hDC), fun q hq => ?_, R₅⟩
        rcases List.mem_cons.mp hq with rfl | hq
        · exact ⟨hD₆.trans (congrArg some (lst_snoc ys y)), hDL, hD₀⟩
        · exact ⟨hs₆.extBut _ _ (off3 q hq).2.2 (N₅' q hq).1, (N₅' q hq).2⟩
      · have hin : i = n := Nat.le_antisymm hi (Nat.not_lt.mp hlt)
        subst hin
        have hnil : items.drop i = [] := List.drop_eq_nil_of_le (Nat.le_of_eq hlen)
        rw [hnil] at R'
        refine W.done _ _ _ hst' fun h₂ tk₂ hk₂ => ?_
        have up₂ : ∀ c o, c ≠ I → c ≠ J → h'.get? c = some o → h₂.get? c = some o := fun c o hc hj e => hk₂ c o (by simp [hc, hj]) e
        exact hRR _ _ h₂ tk₂ _ ys ⟨F'.ns.at' fun o e => up₂ _ o hIL hJL e, fun c o e => up₂ c o (fun q => by rw [q, hI₀] at e; cases e) (fun q => by rw [q, hJ₀] at e; cases e) (F'.keep c o e), F'.above⟩ (fun p hp => by
          have z := N' p hp
          refine ⟨up₂ _ _ ?_ ?_ z.1, z.2⟩
          · rcases List.mem_cons.mp hp with rfl | hp
            · exact Ne.symm hDI
            · exact (off3 p hp).1
          · rcases List.mem_cons.mp hp with rfl | hp
            · exact Ne.symm hDJ
            · exact offJ p hp) off₀.one (hn'.at' fun o e => up₂ _ o (Ne.symm hCI) (Ne.symm hCJ) e) hC₀ hD₀ hCL hDL (Ne.symm hDC) (fun p hp => (off3 p hp).2.1) R'
    · rcases List.mem_cons.mp hp with rfl | hp
      · exact ⟨hacc, hDL, hD₀⟩
      · exact ⟨old _ _ (N p hp).1, (N p hp).2⟩
  exact codeAny_compStart_list (loop _ rfl) (hself _ _ _ hst₁ (loop _ rfl)))
 | fail))


end
end comp
end
section
set_option maxHeartbeats 2000000
section comp
open PyProof.Rows.LCg KBw
section
variable {prog : Program} {w : World} {A : Around} {E : Value → Shared → Prop} {s : Shared} {h₀ : Heap} {L : Addr} {m : Str → Option Value} {env : Env}
/-- the two names of a turn over enumerate -/
def enItem (a b : Str) (i k : Int) : Asg := fun m => ∃ t u, m a = some (.int i t) ∧ m b = some (.int k u)
def enItems (a b : Str) : List Int → Int → List Asg
  | [], _ => []
  | k :: r, i => enItem a b i k :: enItems a b r (i + 1)
theorem enItems_length {a b : Str} : ∀ (ks : List Int) (i : Int), (enItems a b ks i).length = ks.length
  | [], _ => rfl
  | _ :: r, i => congrArg (· + 1) (enItems_length r (i + 1))
theorem enItems_get {a b : Str} : ∀ (ks : List Int) (i : Int) (j : Nat) (asg : Asg), (enItems a b ks i)[j]? = some asg → ∃ k, ks[j]? = some k ∧ asg = enItem a b (i + (j : Int)) k
  | [], _, _, _, h => by simp [enItems] at h
  | k :: r, i, 0, asg, h => by
    simp only [enItems, List.getElem?_cons_zero, Option.some.injEq] at h
    exact ⟨k, rfl, by rw [← h]; simp⟩
  | k :: r, i, j + 1, asg, h => by
    simp only [enItems, List.getElem?_cons_succ] at h
    obtain ⟨k', h1, h2⟩ := enItems_get r (i + 1) j asg h
    exact ⟨k', by simpa using h1, by rw [h2]; congr 1; omega⟩
def MSrcE (prog : Program) (w : World) (A : Around) (h₀ : Heap) (L : Addr) (m : Str → Option Value) (env : Env) (elt : PySem.Expr) (a b : Str) (scope : Scope) (cl : List (Str × Addr)) (Fin : Shared → List Value → Led → Prop) (xv : Value) (s₁ : Shared) : Prop :=
  ∃ bs t J news items, xv = .ref (J + 1) ∧ A.handled = none ∧ IsEnum s₁.heap (J + 1) J 0 .none ∧ IsBytesIter s₁.heap J bs t 0 ∧ Fr h₀ L s₁.heap m ∧ News h₀ L s₁.heap news ∧ h₀.get? J = none ∧ h₀.get? (J + 1) = none ∧ L ≠ J ∧ L ≠ J + 1 ∧
    (∀ p ∈ news, p.1 ≠ J) ∧ (∀ p ∈ news, p.1 ≠ J + 1) ∧ items = enItems a b (bInts bs) 0 ∧ bs.size ≤ sizeLine ∧ McE prog w A h₀ L m env elt scope cl s₁ (Fin s₁) news items []
theorem enum_src {elt : PySem.Expr} {a b : Str} {scope : Scope} {cl : List (Str × Addr)} {Fin : Shared → List Value → Led → Prop} {bs : Array UInt8} {t : Tok} {ks : List Int} {items : List Asg} {news : Led}
    (hh : A.handled = none) (F : Fr h₀ L s.heap m) (N : News h₀ L s.heap news) (hk : bInts bs = ks) (hz : ks.length ≤ 1000) (hi : enItems a b ks 0 = items)
    (h : ∀ g, McE prog w A h₀ L m env elt scope cl { s with heap := g } (Fin { s with heap := g }) news items []) :
    wpAny (model prog w) A (call (.type "enumerate") [.bytes bs t]) (MSrcE prog w A h₀ L m env elt a b scope cl Fin) E s := by
  refine call_enum_bytes fun h' he hb hz' up => ?_
  have lt : ∀ p ∈ news, p.1 < s.heap.objs.size := fun p hp => Heap.lt_size (N p hp).1
  have fresh₀ : ∀ a, s.heap.objs.size ≤ a → h₀.get? a = none := fun a ha => by
    cases e : h₀.get? a with
    | none => rfl
    | some o' => exact absurd (Heap.lt_size (F.keep a o' e)) (Nat.not_lt.mpr ha)
  refine ⟨bs, t, s.heap.objs.size, news, items, rfl, hh, he, hb, F.keeps up, N.grown up, fresh₀ _ (Nat.le_refl _), fresh₀ _ (Nat.le_succ _), Nat.ne_of_lt F.ns.lt, Nat.ne_of_lt (Nat.lt_succ_of_lt F.ns.lt), fun p hp => Nat.ne_of_lt (lt p hp), fun p hp => Nat.ne_of_lt (Nat.lt_succ_of_lt (lt p hp)), by rw [hk, hi], ?_, h _⟩
  rw [← ints_length, hk, sizeLine_eq]; omega
theorem mcE_En {elt iter : PySem.Expr} {a b : Str} {pa pb tp : Pos} {kk : Nat} {scope : Scope} {cl : List (Str × Addr)} {pos : Pos} {Q : Value → Shared → Prop} (_F₀ : Fr h₀ L s.heap m)
    (hclos : closureFor scope env = pure cl) (hcell : ∀ y ∈ scope.names, y.2 ≠ .cell) (hkind : scope.kind = .function)
    (hnames : ∀ y ∈ scope.names, y.2 = .local → scope.names.lookup y.1 = some .local) (hxa : scope.names.lookup a = some .local) (hxb : scope.names.lookup b = some .local) (hab : ¬ a = b)
    (h : wpAny (model prog w) A (eval iter env) (MSrcE prog w A h₀ L m env elt a b scope cl (fun s₂ => FinE h₀ L m s₂ Q)) E s)
    (hs : ∀ x, foldedSetIterable iter env x = pure x := by intro _; rfl) :
    wpAny (model prog w) A (eval (.ListComp elt [⟨.Tuple [.Name a pa, .Name b pb] kk tp, iter, [], 0⟩] scope pos) env) Q E s := (by exact use_of : Use _ (by
 first
 | (
  rw [eval_ListComp]
  refine wpAny_comprehension_free (use := none) rfl hs hclos hkind hnames (wpAny_mono h (fun xv s₁ h₁ => ?_) fun _ _ e => e)
  obtain ⟨bs, t, J, news, items, rfl, hh, he, hb, F, N, n1, n2, n3, n4, o1, o2, rfl, hz, R⟩ := h₁
  have hne : J + 1 ≠ J := Nat.succ_ne_self J
  refine wpAny_pyIter_enum he ?_
  have hasg : HasgOf prog w A h₀ env (.Tuple [.Name a pa, .Name b pb] kk tp) scope cl (fun i v h => ∃ T ti tx c, v = .ref T ∧ bs[i]? = some c ∧ h.IsTuple T #[.int i ti, .int (c.toNat : Int) tx]) (enItems a b (bInts bs) 0) := by
    refine asg_pair hh hkind hxa hxb hab fun i v h asg hi hP hk => ?_
    obtain ⟨T, ti, tx, c, rfl, hc, hT⟩ := hP
    obtain ⟨k, h1, rfl⟩ := enItems_get _ _ _ _ hi
    rw [ints_get hc] at h1
    cases h1
    exact ⟨T, _, _, rfl, hT, fun m₂ x y => ⟨ti, tx, by simpa using x, y⟩⟩
  refine mc_blockE (en_turns hh (J + 1) J hne bs t) (fun s Q E st q => by obtain ⟨⟨_, y⟩, _⟩ := st; exact wpAny_pyIter_enum y q) hz (by rw [enItems_length, ints_length]) (fun i h st => by obtain ⟨⟨_, y⟩, _⟩ := st; exact ⟨_, y⟩) (fun i h st => by obtain ⟨_, o, y, _⟩ := st; exact ⟨o, y⟩)
    hasg hcell hkind ⟨⟨_, he⟩, hb⟩ (fun c hc => ?_) F N n4 n2 n3 n1 hne o2 o1 R ?_
  · rcases List.mem_cons.mp hc with rfl | hc
    · exact Heap.lt_size he
    · rw [List.mem_singleton.mp hc]; obtain ⟨o, y, _⟩ := hb; exact Heap.lt_size y
  · intro D C h tk m' ys F' N' o1 hn hC₀ hD₀ hCL hDL hCD offC fin
    refine ⟨m', hn, fun h'' hs'' => fin D h'' tk (F'.change hs'' hCL hC₀) (fun p hp => ?_) o1⟩
    refine ⟨hs''.extBut _ _ ?_ (N' p hp).1, (N' p hp).2⟩
    rcases List.mem_cons.mp hp with rfl | hp
    · exact Ne.symm hCD
    · exact offC p hp)
 | fail))
theorem McE.done {elt : PySem.Expr} {scope : Scope} {cl : List (Str × Addr)} {Fin : List Value → Led → Prop} {ys : List Value} {news : Led} (h : Fin ys news) : McE prog w A h₀ L m env elt scope cl s Fin news [] ys := h
theorem McE.turn {elt : PySem.Expr} {scope : Scope} {cl : List (Str × Addr)} {Fin : List Value → Led → Prop} {asg : Asg} {r : List Asg} {ys : List Value} {news : Led}
    (h : ∀ I oI J oJ C oC D m₂ h tk (E' : Value → Shared → Prop), NsObj oC m₂ → asg m₂ → Fr h₀ L h m → News h₀ L h ((I, oI) :: (C, oC) :: (D, lst ys) :: (J, oJ) :: news) → Off3 I C D ((J, oJ) :: news) → ((@Ne Nat I C) ∧ (@Ne Nat I D) ∧ (@Ne Nat C D)) →
      wpAny (model prog w) A (eval elt (compEnvC scope cl C env)) (CompEnd h₀ L m { s with heap := h, toks := tk } I oI C oC D (lst ys) (fun _ => True) (fun y news' => news' = (J, oJ) :: news ∧ McE prog w A h₀ L m env elt scope cl s Fin news r (ys ++ [y]))) E' { s with heap := h, toks := tk }) :
    McE prog w A h₀ L m env elt scope cl s Fin news (asg :: r) ys := h
end
end comp
end
section
set_option maxHeartbeats 4000000
theorem wdsL86 : True := by
  k_with "subscriptTail" =>
    fail_if_success (k_extra "off L86")
    ((k_here; (with_reducible show wpAny _ _ (subscriptTail _ _ (Value.ref 73) (Value.int _ _)) _ _ _); k_dflt (refine' role_at_tuple ?z223X ?z223a ?z223b ?_; (case z223X => k_in); (case z223a => first | exact mod4A (by assumption) | omega); (case z223b => first | exact mod4B (by assumption) | omega); intro t')))
  k_with "subscriptTail Name Constant bytes int" =>
    fail_if_success (k_extra "off L86")
    ((k_here; (with_reducible show wpAny _ _ (subscriptTail _ _ (Value.bytes _ _) (Value.int _ _)) _ _ _); k_dflt (refine' item_byte ?z8159hk ?z8159a ?z8159b ?z8159z ?z8159x ?_ ?z8159hs ?z8159ht; (case z8159hk => assumption); (case z8159a => decide); (case z8159b => (simp only [List.length_cons, List.length_nil]; omega)); (case z8159z => (simp only [List.length_cons, List.length_nil]; omega)); (case z8159x => rfl); (case z8159hs => with_unfolding_all rfl); (case z8159ht => intro _; with_unfolding_all rfl); intro t' n' lo' hi'; (try dsimp only))))
  k_with "subscriptTail" =>
    fail_if_success (k_extra "off L86")
    ((k_here; (with_reducible show wpAny _ _ (subscriptTail _ (Expr.Slice _ _ none _) (Value.bytes _ _) (Value.ref _)) _ _ _); k_dflt (refine' slice_lit (s := ⟨_, _, _, _, _⟩) ?z6820F ?z6820N ?z6820hk ?z6820l ?z6820u ?z6820z ?z6820r ?_ ?z6820hs ?z6820ht; (case z6820F => k_asm); (case z6820N => k_asm); (case z6820hk => assumption); (case z6820l => constructor); (case z6820u => constructor); (case z6820z => (simp only [List.length_cons, List.length_nil]; omega)); (case z6820r => (simp [clipAt, Int.max_def, Int.min_def]; rfl)); (case z6820hs => with_unfolding_all rfl); (case z6820ht => intro _; with_unfolding_all rfl); intro b2' h' t' n' F' N' hb2'; (try dsimp only))))
  k_with "subscriptTail Name Slice bytes ref" =>
    fail_if_success (k_extra "off L86")
    ((k_here; (with_reducible show wpAny _ _ (subscriptTail _ (Expr.Slice none none (some _) _) (Value.bytes _ _) (Value.ref _)) _ _ _); k_dflt (refine' rev_K (s := ⟨_, _, _, _, _⟩) ?z85F ?z85N ?z85hk ?z85z ?_ ?z85hs ?z85ht; (case z85F => k_asm); (case z85N => k_asm); (case z85hk => first | exact rev2 (by assumption) | exact rev4 (by assumption) | exact rev6 (by assumption)); (case z85z => (simp only [List.length_cons, List.length_nil]; omega)); (case z85hs => with_unfolding_all rfl); (case z85ht => intro _; with_unfolding_all rfl); intro b2' h' t' n' F' N' hb2'; (try dsimp only))))
  k_with "eval ListComp" =>
    fail_if_success (k_extra "off L86")
    ((k_here; k_dflt (refine' mcE_En ?z2749k1 ?z2749k2 ?z2749k3 ?z2749k4 ?z2749k5 ?z2749ka ?z2749kb ?z2749kab ?_ ?z2749k6; (case z2749k1 => k_asm); (case z2749k2 => with_unfolding_all rfl); (case z2749k3 => decide); (case z2749k4 => rfl); (case z2749k5 => decide); (case z2749ka => rfl); (case z2749kb => rfl); (case z2749kab => decide); (case z2749k6 => intro _; rfl))))
  k_with "call type:enumerate" =>
    fail_if_success (k_extra "off L86")
    ((k_here; k_dflt (first
      | (refine' enum_src (items := [enItem _ _ 0 _, enItem _ _ 1 _]) ?z7896h ?z7896F ?z7896N ?z7896k ?z7896z ?z7896i ?_; (case z7896h => rfl); (case z7896F => k_asm); (case z7896N => k_asm); (case z7896k => assumption); (case z7896i => rfl); (case z7896z => (simp only [List.length_cons, List.length_nil]; omega)); intro g9')
      | (refine' enum_src (items := [enItem _ _ 0 _, enItem _ _ 1 _, enItem _ _ 2 _, enItem _ _ 3 _]) ?z7896h ?z7896F ?z7896N ?z7896k ?z7896z ?z7896i ?_; (case z7896h => rfl); (case z7896F => k_asm); (case z7896N => k_asm); (case z7896k => assumption); (case z7896i => rfl); (case z7896z => (simp only [List.length_cons, List.length_nil]; omega)); intro g9')
      | (refine' enum_src (items := [enItem _ _ 0 _, enItem _ _ 1 _, enItem _ _ 2 _, enItem _ _ 3 _, enItem _ _ 4 _, enItem _ _ 5 _]) ?z7896h ?z7896F ?z7896N ?z7896k ?z7896z ?z7896i ?_; (case z7896h => rfl); (case z7896F => k_asm); (case z7896N => k_asm); (case z7896k => assumption); (case z7896i => rfl); (case z7896z => (simp only [List.length_cons, List.length_nil]; omega)); intro g9'))))
  k_with "McE" =>
    fail_if_success (k_extra "off L86")
    ((with_unfolding_all first
      | (refine McE.turn ?_; intro I' oI' J' oJ' C' oC' D' m' h' tk' E' hC' hasg' F' N' off' ne'; (obtain ⟨t9', u9', ha9', hb9'⟩ := hasg'))
      | refine McE.done ?_))
  k_with "CompEnd" =>
    fail_if_success (k_extra "off L86")
    ((k_here; (refine' CompEnd.introW ?z7966F ?z7966N ?z7966w1 ?z7966w2 ?z7966w3 ?z7966off ?z7966src (And.intro rfl ?_); (case z7966F => k_asm); (case z7966N => assumption); (case z7966w1 => k_upd); (case z7966w2 => k_upd); (case z7966w3 => k_upd); (case z7966off => assumption); (case z7966src => trivial))))
  trivial
theorem lnum2_in {w : World} {p : Program} {loose : List Str} {mean : ExcName → Option Value} {mg mb : Str → Option Value}
  (κ : Cx) (A₀ : Around) (base h₀ : Heap) (m : Str → Option Value) (s : Shared) (Q E : Value → Shared → Prop)
  (led : Led) (b : Array UInt8) (tb : Tok) (b0 b1 : Int)
  (B : Below A₀ base κ.outer h₀) (F : Fr h₀ κ.L s.heap m) (X : (KH w.params).In h₀) (N : News h₀ κ.L s.heap (led))
  (T : Top p loose mean mg mb h₀) (hk : κ.cs.kind = .function) (hb : KBw.bInts b = [b0, b1])
  (hd : κ.dp + 20 < recursionLimit) (hu : κ.un + 200 < cLine)
  (ret : ∀ (t : Tok) (h' : Heap) (tk' : Nat), Fr h₀ κ.L h' m → News h₀ κ.L h' led → Q (.int (b0 * 256 + b1) t) { s with heap := h', toks := tk' }):
  wpAny (model prg w) (T1 κ) (call (.ref (k_addr% "_law_number")) [.bytes b tb]) Q E s := (by exact use_of : Use _ (by
 first
 | (
  refine wpAny_call ?_
  k_dflt k_enter
  k_steps
  all_goals (refine cb_retI (fun t h' tk' F N => ret t h' tk' F N) (by omega) (by k_asm) (by refine cb_drop (by assumption) ?_; intro p9 hp9; repeat (first | exact hp9 | apply List.Mem.tail))))
 | fail))

theorem lnum2 {w : World} {p : Program} {loose : List Str} {mean : ExcName → Option Value} {mg mb : Str → Option Value}
  (dp un : Nat) (gd : Option (List Code)) (cn : Str) (cs : Scope) (a : Addr) (ccd : Value) (cl : List (Str × Addr)) (outer : List Env) (A₀ : Around) (base h₀ : Heap) (L : Addr) (m : Str → Option Value) (s : Shared) (Q E : Value → Shared → Prop)
  (led : Led) (b : Array UInt8) (tb : Tok) (b0 b1 : Int)
  (B : Below A₀ base outer h₀) (F : Fr h₀ L s.heap m) (X : (KH w.params).In h₀) (N : News h₀ L s.heap (led))
  (T : Top p loose mean mg mb h₀) (hk : cs.kind = .function) (hb : KBw.bInts b = [b0, b1])
  (hd : dp + 20 < recursionLimit) (hu : un + 200 < cLine)
  (ret : ∀ (t : Tok) (h' : Heap) (tk' : Nat), Fr h₀ L h' m → News h₀ L h' led → Q (.int (b0 * 256 + b1) t) { s with heap := h', toks := tk' }):
  wpAny (model prg w) (ktrTop dp un gd cn cs L a ccd cl outer) (call (.ref (k_addr% "_law_number")) [.bytes b tb]) Q E s :=
  lnum2_in ⟨dp, un, gd, cn, cs, L, a, ccd, cl, outer⟩ A₀ base h₀ m s Q E led b tb b0 b1 B F X N T hk hb hd hu ret
theorem lnum4_in {w : World} {p : Program} {loose : List Str} {mean : ExcName → Option Value} {mg mb : Str → Option Value}
  (κ : Cx) (A₀ : Around) (base h₀ : Heap) (m : Str → Option Value) (s : Shared) (Q E : Value → Shared → Prop)
  (led : Led) (b : Array UInt8) (tb : Tok) (b0 b1 b2 b3 : Int)
  (B : Below A₀ base κ.outer h₀) (F : Fr h₀ κ.L s.heap m) (X : (KH w.params).In h₀) (N : News h₀ κ.L s.heap (led))
  (T : Top p loose mean mg mb h₀) (hk : κ.cs.kind = .function) (hb : KBw.bInts b = [b0, b1, b2, b3])
  (hd : κ.dp + 20 < recursionLimit) (hu : κ.un + 200 < cLine)
  (ret : ∀ (t : Tok) (h' : Heap) (tk' : Nat), Fr h₀ κ.L h' m → News h₀ κ.L h' led → Q (.int (b0 * 16777216 + b1 * 65536 + b2 * 256 + b3) t) { s with heap := h', toks := tk' }):
  wpAny (model prg w) (T1 κ) (call (.ref (k_addr% "_law_number")) [.bytes b tb]) Q E s := (by exact use_of : Use _ (by
 first
 | (
  refine wpAny_call ?_
  k_dflt k_enter
  k_steps
  all_goals (refine cb_retI (fun t h' tk' F N => ret t h' tk' F N) (by omega) (by k_asm) (by refine cb_drop (by assumption) ?_; intro p9 hp9; repeat (first | exact hp9 | apply List.Mem.tail))))
 | fail))

theorem lnum4 {w : World} {p : Program} {loose : List Str} {mean : ExcName → Option Value} {mg mb : Str → Option Value}
  (dp un : Nat) (gd : Option (List Code)) (cn : Str) (cs : Scope) (a : Addr) (ccd : Value) (cl : List (Str × Addr)) (outer : List Env) (A₀ : Around) (base h₀ : Heap) (L : Addr) (m : Str → Option Value) (s : Shared) (Q E : Value → Shared → Prop)
  (led : Led) (b : Array UInt8) (tb : Tok) (b0 b1 b2 b3 : Int)
  (B : Below A₀ base outer h₀) (F : Fr h₀ L s.heap m) (X : (KH w.params).In h₀) (N : News h₀ L s.heap (led))
  (T : Top p loose mean mg mb h₀) (hk : cs.kind = .function) (hb : KBw.bInts b = [b0, b1, b2, b3])
  (hd : dp + 20 < recursionLimit) (hu : un + 200 < cLine)
  (ret : ∀ (t : Tok) (h' : Heap) (tk' : Nat), Fr h₀ L h' m → News h₀ L h' led → Q (.int (b0 * 16777216 + b1 * 65536 + b2 * 256 + b3) t) { s with heap := h', toks := tk' }):
  wpAny (model prg w) (ktrTop dp un gd cn cs L a ccd cl outer) (call (.ref (k_addr% "_law_number")) [.bytes b tb]) Q E s :=
  lnum4_in ⟨dp, un, gd, cn, cs, L, a, ccd, cl, outer⟩ A₀ base h₀ m s Q E led b tb b0 b1 b2 b3 B F X N T hk hb hd hu ret
theorem lnum6_in {w : World} {p : Program} {loose : List Str} {mean : ExcName → Option Value} {mg mb : Str → Option Value}
  (κ : Cx) (A₀ : Around) (base h₀ : Heap) (m : Str → Option Value) (s : Shared) (Q E : Value → Shared → Prop)
  (led : Led) (b : Array UInt8) (tb : Tok) (b0 b1 b2 b3 b4 b5 : Int)
  (B : Below A₀ base κ.outer h₀) (F : Fr h₀ κ.L s.heap m) (X : (KH w.params).In h₀) (N : News h₀ κ.L s.heap (led))
  (T : Top p loose mean mg mb h₀) (hk : κ.cs.kind = .function) (hb : KBw.bInts b = [b0, b1, b2, b3, b4, b5])
  (hd : κ.dp + 20 < recursionLimit) (hu : κ.un + 200 < cLine)
  (ret : ∀ (t : Tok) (h' : Heap) (tk' : Nat), Fr h₀ κ.L h' m → News h₀ κ.L h' led → Q (.int (b0 * 1099511627776 + b1 * 4294967296 + b2 * 16777216 + b3 * 65536 + b4 * 256 + b5) t) { s with heap := h', toks := tk' }):
  wpAny (model prg w) (T1 κ) (call (.ref (k_addr% "_law_number")) [.bytes b tb]) Q E s := (by exact use_of : Use _ (by
 first
 | (
  refine wpAny_call ?_
  k_dflt k_enter
  k_steps
  all_goals (refine cb_retI (fun t h' tk' F N => ret t h' tk' F N) (by omega) (by k_asm) (by refine cb_drop (by assumption) ?_; intro p9 hp9; repeat (first | exact hp9 | apply List.Mem.tail))))
 | fail))
theorem lnum6 {w : World} {p : Program} {loose : List Str} {mean : ExcName → Option Value} {mg mb : Str → Option Value}
  (dp un : Nat) (gd : Option (List Code)) (cn : Str) (cs : Scope) (a : Addr) (ccd : Value) (cl : List (Str × Addr)) (outer : List Env) (A₀ : Around) (base h₀ : Heap) (L : Addr) (m : Str → Option Value) (s : Shared) (Q E : Value → Shared → Prop)
  (led : Led) (b : Array UInt8) (tb : Tok) (b0 b1 b2 b3 b4 b5 : Int)
  (B : Below A₀ base outer h₀) (F : Fr h₀ L s.heap m) (X : (KH w.params).In h₀) (N : News h₀ L s.heap (led))
  (T : Top p loose mean mg mb h₀) (hk : cs.kind = .function) (hb : KBw.bInts b = [b0, b1, b2, b3, b4, b5])
  (hd : dp + 20 < recursionLimit) (hu : un + 200 < cLine)
  (ret : ∀ (t : Tok) (h' : Heap) (tk' : Nat), Fr h₀ L h' m → News h₀ L h' led → Q (.int (b0 * 1099511627776 + b1 * 4294967296 + b2 * 16777216 + b3 * 65536 + b4 * 256 + b5) t) { s with heap := h', toks := tk' }):
  wpAny (model prg w) (ktrTop dp un gd cn cs L a ccd cl outer) (call (.ref (k_addr% "_law_number")) [.bytes b tb]) Q E s :=
  lnum6_in ⟨dp, un, gd, cn, cs, L, a, ccd, cl, outer⟩ A₀ base h₀ m s Q E led b tb b0 b1 b2 b3 b4 b5 B F X N T hk hb hd hu ret
theorem wdoL86 : True := by
  k_with "off L86" => skip
  trivial
end
section
set_option maxHeartbeats 2000000
theorem lt_up {I k : Nat} {r : Led} (h : ∀ p ∈ r, p.1 < I) : ∀ p ∈ r, p.1 ≠ I + k := fun p hp => Nat.ne_of_lt (Nat.lt_of_lt_of_le (h p hp) (Nat.le_add_right _ _))
theorem lt_self {I : Nat} {r : Led} (h : ∀ p ∈ r, p.1 < I) : ∀ p ∈ r, p.1 ≠ I := lt_up (k := 0) h
theorem lt_cons {I a : Nat} {o : Obj} {r : Led} (n : a < I) (h : ∀ p ∈ r, p.1 < I) : ∀ p ∈ (a, o) :: r, p.1 < I := fun p hp => by
  rcases List.mem_cons.mp hp with rfl | hp
  · exact n
  · exact h p hp
end
section
set_option maxHeartbeats 4000000
theorem wdsL100 : True := by
  k_with "subscriptTail" =>
    fail_if_success (k_extra "off L100")
    ((k_here; (with_reducible show wpAny _ _ (subscriptTail _ _ (Value.ref 73) (Value.int _ _)) _ _ _); k_dflt (refine' role_at_tuple ?z223X ?z223a ?z223b ?_; (case z223X => k_in); (case z223a => first | exact mod4A (by assumption) | omega); (case z223b => first | exact mod4B (by assumption) | omega); intro t')))
  k_with "subscriptTail Name Constant bytes int" =>
    fail_if_success (k_extra "off L100")
    ((k_here; (with_reducible show wpAny _ _ (subscriptTail _ _ (Value.bytes _ _) (Value.int _ _)) _ _ _); k_dflt (refine' item_byte ?z8159hk ?z8159a ?z8159b ?z8159z ?z8159x ?_ ?z8159hs ?z8159ht; (case z8159hk => assumption); (case z8159a => decide); (case z8159b => (simp only [List.length_cons, List.length_nil]; omega)); (case z8159z => (simp only [List.length_cons, List.length_nil]; omega)); (case z8159x => rfl); (case z8159hs => with_unfolding_all rfl); (case z8159ht => intro _; with_unfolding_all rfl); intro t' n' lo' hi'; (try dsimp only))))
  k_with "subscriptTail" =>
    fail_if_success (k_extra "off L100")
    ((k_here; (with_reducible show wpAny _ _ (subscriptTail _ (Expr.Slice _ _ none _) (Value.bytes _ _) (Value.ref _)) _ _ _); k_dflt (refine' slice_lit (s := ⟨_, _, _, _, _⟩) ?z6820F ?z6820N ?z6820hk ?z6820l ?z6820u ?z6820z ?z6820r ?_ ?z6820hs ?z6820ht; (case z6820F => k_asm); (case z6820N => k_asm); (case z6820hk => assumption); (case z6820l => constructor); (case z6820u => constructor); (case z6820z => (simp only [List.length_cons, List.length_nil]; omega)); (case z6820r => (simp [clipAt, Int.max_def, Int.min_def]; rfl)); (case z6820hs => with_unfolding_all rfl); (case z6820ht => intro _; with_unfolding_all rfl); intro b2' h' t' n' F' N' hb2'; (try dsimp only))))
  k_with "call ref" =>
    fail_if_success (k_extra "off L100")
    ((k_here; (with_reducible show wpAny _ _ (call (Value.ref (k_addr% "_law_number")) [Value.bytes _ _]) _ _ _); k_dflt (focus (refine' lnum2 _ _ _ _ _ _ _ _ _ _ _ _ _ _ _ _ _ _ _ _ _ _ ?z4983cB ?z4983cF ?z4983cX ?z4983cN ?z4983cT ?z4983cK ?z4983hb ?z4983cd ?z4983cu (fun t' h' tk' F' N' => ?_); (case z4983cF => k_asm); (case z4983cB => k_asm); (case z4983cX => k_asm); (case z4983cN => k_asm); (case z4983cT => k_asm); (case z4983cK => first | exact rfl | assumption); (case z4983hb => assumption); (case z4983cd => ktr_room); (case z4983cu => ktr_room); all_goals (try dsimp only)))))
  k_with "call ref" =>
    fail_if_success (k_extra "off L100")
    ((k_here; (with_reducible show wpAny _ _ (call (Value.ref (k_addr% "_law_number")) [Value.bytes _ _]) _ _ _); k_dflt (focus (refine' lnum4 _ _ _ _ _ _ _ _ _ _ _ _ _ _ _ _ _ _ _ _ _ _ _ _ ?z834cB ?z834cF ?z834cX ?z834cN ?z834cT ?z834cK ?z834hb ?z834cd ?z834cu (fun t' h' tk' F' N' => ?_); (case z834cF => k_asm); (case z834cB => k_asm); (case z834cX => k_asm); (case z834cN => k_asm); (case z834cT => k_asm); (case z834cK => first | exact rfl | assumption); (case z834hb => assumption); (case z834cd => ktr_room); (case z834cu => ktr_room); all_goals (try dsimp only)))))
  k_with "call ref" =>
    fail_if_success (k_extra "off L100")
    ((k_here; (with_reducible show wpAny _ _ (call (Value.ref (k_addr% "_law_number")) [Value.bytes _ _]) _ _ _); k_dflt (focus (refine' lnum6 _ _ _ _ _ _ _ _ _ _ _ _ _ _ _ _ _ _ _ _ _ _ _ _ _ _ ?z8851cB ?z8851cF ?z8851cX ?z8851cN ?z8851cT ?z8851cK ?z8851hb ?z8851cd ?z8851cu (fun t' h' tk' F' N' => ?_); (case z8851cF => k_asm); (case z8851cB => k_asm); (case z8851cX => k_asm); (case z8851cN => k_asm); (case z8851cT => k_asm); (case z8851cK => first | exact rfl | assumption); (case z8851hb => assumption); (case z8851cd => ktr_room); (case z8851cu => ktr_room); all_goals (try dsimp only)))))
  k_with "subscriptTail" =>
    fail_if_success (k_extra "off L100")
    ((k_here; (with_reducible show wpAny _ _ (subscriptTail _ _ (Value.ref _) (Value.int _ _)) _ _ _); k_dflt (refine' role_at_list ?z4370hl ?z4370a ?z4370b ?_; (case z4370hl => is_list); (case z4370a => first | exact mod4A (by assumption) | omega); (case z4370b => first | exact mod4B (by assumption) | omega); intro t')))
  k_with "my k_all" =>
    fail_if_success (k_extra "off L100")
    (first | (with_reducible assumption) | ((with_reducible show ∀ p ∈ (_ :: _), _); refine' List.forall_mem_cons.mpr ⟨?_, ?_⟩; (next => (dsimp only; first | (with_reducible assumption) | (with_reducible exact Ne.symm (by assumption)) | k_ne)); (next => k_all)) | exact lt_self (by assumption) | exact lt_up (by assumption) | assumption)
  k_with "McL" =>
    fail_if_success (k_extra "off L100")
    (first | (with_reducible refine McL.done ?_) | ((first | (with_reducible show McL _ _ _ _ _ _ _ _ _ _ _ _ _ _ (_ :: _) _ _) | (fail_if_success (k_extra "mcl guard"))); with_unfolding_all first
      | (refine McL.turn ?_; intro I' oI' C' oC' D' m' h' tk' E' hC' hasg' F' N' off' ne'; (try dsimp only at hasg'); (first | (obtain ⟨t9', u9', ha9', hb9'⟩ := hasg') | (obtain ⟨t9', ha9'⟩ := hasg') | skip))
      | refine McL.done ?_))
  k_with "McD" =>
    fail_if_success (k_extra "off L100")
    (first | (with_reducible refine McD.done ?_) | (with_unfolding_all first
      | (refine McD.turn ?_; intro I' oI' C' oC' D' oD' m' h' tk' E' hC' hasg' F' N' off' ne'; (try dsimp only at hasg'); (first | (obtain ⟨t9', u9', ha9', hb9'⟩ := hasg') | (obtain ⟨t9', ha9'⟩ := hasg') | skip))
      | refine McD.done ?_))
  k_with "my k_lt" =>
    fail_if_success (k_extra "off L100")
    skip
  k_with "mem9" =>
    fail_if_success (k_extra "off L100")
    (first | ((with_reducible show Has _ (_ :: _)); first | exact Has.head | exact Has.tail (by k_extra "mem9")) | exact Has.of (by assumption))
  k_with "my k_ne" =>
    fail_if_success (k_extra "off L100")
    ((try dsimp only); first | assumption | exact Ne.symm (by assumption) | exact neP (by assumption) (by k_extra "mem9") | exact neQ (by assumption) (by k_extra "mem9"))
  k_with "newList" =>
    fail_if_success (k_extra "off L100")
    (k_here; k_dflt (refine' newList_L ?nl1 ?nl2 ?_; (case nl1 => k_asm); (case nl2 => k_asm); k_whole); intro l' h' F' o9 N' l1; (try k_lt l1); (try k_sweep))
  k_with "newTuple" =>
    fail_if_success (k_extra "off L100")
    (k_here; k_dflt (refine' newTuple_L ?nt1 ?nt2 ?_ ?nt3; (case nt1 => k_asm); (case nt2 => k_asm); (case nt3 => kmk_size)); intro D' h' F' o9 N' l1; (try k_lt l1); (try k_sweep))
  trivial
theorem bit_is {o k e d : Int} (h2 : d = e % 2) (h1 : e = o / k) : (d == 1) = bitAt o k := by
  subst h2 h1; rfl
theorem news_lt {h₀ h : Heap} {L : Addr} {a b c d e f : Addr × Obj} {r led : Led} (N : News h₀ L h (a :: b :: c :: d :: e :: f :: r)) (hs : ∀ p ∈ led, p ∈ r) : News h₀ L h (a :: e :: f :: led) := by
  intro p hp
  refine N p ?_
  simp only [List.mem_cons] at hp ⊢
  rcases hp with h | h | h | h
  · exact .inl h
  · exact .inr (.inr (.inr (.inr (.inl h))))
  · exact .inr (.inr (.inr (.inr (.inr (.inl h)))))
  · exact .inr (.inr (.inr (.inr (.inr (.inr (hs _ h))))))
theorem ltold_in {w : World} {p : Program} {loose : List Str} {mean : ExcName → Option Value} {mg mb : Str → Option Value}
  (κ : Cx) (A₀ : Around) (base h₀ : Heap) (m : Str → Option Value) (s : Shared) (Q E : Value → Shared → Prop)
  (led : Led) (b : Array UInt8) (tb : Tok) (o0 o1 o2 o3 o4 o5 o6 o7 o8 o9 o10 o11 o12 o13 o14 o15 : Int)
  (B : Below A₀ base κ.outer h₀) (F : Fr h₀ κ.L s.heap m) (X : (KH w.params).In h₀) (N : News h₀ κ.L s.heap (led))
  (T : Top p loose mean mg mb h₀) (hk : κ.cs.kind = .function) (hb : KBw.bInts b = [o0, o1, o2, o3, o4, o5, o6, o7, o8, o9, o10, o11, o12, o13, o14, o15]) (hr0 : 0 ≤ o0 ∧ o0 < 256) (hr1 : 0 ≤ o1 ∧ o1 < 256) (hr2 : 0 ≤ o2 ∧ o2 < 256) (hr13 : 0 ≤ o13 ∧ o13 < 256) (hr14 : 0 ≤ o14 ∧ o14 < 256)
  (hd : κ.dp + 40 < recursionLimit) (hu : κ.un + 300 < cLine)
  (ret : ∀ (D rg T : Addr) (k inst low mac cost prio port : Int) (v1 v2 v3 v4 v5 : Bool) (t1 t2 t3 t4 t5 t6 t7 t8 : Tok) (h' : Heap) (tk' : Nat), k = o0 / 4 % 4 → low = o1 * 256 + o2 → inst = low % 4096 → mac = o3 * 1099511627776 + o4 * 4294967296 + o5 * 16777216 + o6 * 65536 + o7 * 256 + o8 → cost = o9 * 16777216 + o10 * 65536 + o11 * 256 + o12 → prio = o13 / 16 * 4096 → port = o14 / 16 * 16 → v1 = bitAt o0 1 → v2 = bitAt o0 2 → v3 = bitAt o0 16 → v4 = bitAt o0 32 → v5 = bitAt o0 64 → Fr h₀ κ.L h' m → News h₀ κ.L h' ((D, tupO [.int inst t1, .ref rg, .int cost t4, .int prio t5, .int port t6, .int o15 t7, .str (roleAt k) t8, .ref T]) :: (rg, tupO [.int low t2, .int mac t3]) :: (T, tupO [.bool v1, .bool v2, .bool v3, .bool v4, .bool v5]) :: led) → Q (.ref D) { s with heap := h', toks := tk' }):
  wpAny (model prg w) (T1 κ) (call (.ref (k_addr% "_law_told")) [.bytes b tb]) Q E s := (by exact use_of : Use _ (by
 first
 | (
  refine wpAny_call ?_
  k_dflt k_enter
  k_steps
  all_goals (refine ret _ _ _ _ _ _ _ _ _ _ _ _ _ _ _ _ _ _ _ _ _ _ _ _ _ ?e1 ?e2 ?e3 ?e4 ?e5 ?e6 ?e7 ?e8 ?e9 ?e10 ?e11 ?e12 (by k_asm) (news_lt (by assumption) (by intro p9 hp9; repeat (first | exact hp9 | apply List.Mem.tail))); (case e1 => first | with_reducible rfl | with_reducible assumption | exact modS (by assumption) (by assumption) | omega); (case e2 => first | with_reducible rfl | with_reducible assumption | exact modS (by assumption) (by assumption) | omega); (case e3 => first | with_reducible rfl | with_reducible assumption | exact modS (by assumption) (by assumption) | omega); (case e4 => first | with_reducible rfl | with_reducible assumption | exact modS (by assumption) (by assumption) | omega); (case e5 => first | with_reducible rfl | with_reducible assumption | exact modS (by assumption) (by assumption) | omega); (case e6 => first | with_reducible rfl | with_reducible assumption | exact modS (by assumption) (by assumption) | omega); (case e7 => first | with_reducible rfl | with_reducible assumption | exact modS (by assumption) (by assumption) | omega); (case e8 => exact bit_is (by assumption) (by assumption)); (case e9 => exact bit_is (by assumption) (by assumption)); (case e10 => exact bit_is (by assumption) (by assumption)); (case e11 => exact bit_is (by assumption) (by assumption)); (case e12 => exact bit_is (by assumption) (by assumption))))
 | fail))
theorem ltold {w : World} {p : Program} {loose : List Str} {mean : ExcName → Option Value} {mg mb : Str → Option Value}
  (dp un : Nat) (gd : Option (List Code)) (cn : Str) (cs : Scope) (a : Addr) (ccd : Value) (cl : List (Str × Addr)) (outer : List Env) (A₀ : Around) (base h₀ : Heap) (L : Addr) (m : Str → Option Value) (s : Shared) (Q E : Value → Shared → Prop)
  (led : Led) (b : Array UInt8) (tb : Tok) (o0 o1 o2 o3 o4 o5 o6 o7 o8 o9 o10 o11 o12 o13 o14 o15 : Int)
  (B : Below A₀ base outer h₀) (F : Fr h₀ L s.heap m) (X : (KH w.params).In h₀) (N : News h₀ L s.heap (led))
  (T : Top p loose mean mg mb h₀) (hk : cs.kind = .function) (hb : KBw.bInts b = [o0, o1, o2, o3, o4, o5, o6, o7, o8, o9, o10, o11, o12, o13, o14, o15]) (hr0 : 0 ≤ o0 ∧ o0 < 256) (hr1 : 0 ≤ o1 ∧ o1 < 256) (hr2 : 0 ≤ o2 ∧ o2 < 256) (hr13 : 0 ≤ o13 ∧ o13 < 256) (hr14 : 0 ≤ o14 ∧ o14 < 256)
  (hd : dp + 40 < recursionLimit) (hu : un + 300 < cLine)
  (ret : ∀ (D rg T : Addr) (k inst low mac cost prio port : Int) (v1 v2 v3 v4 v5 : Bool) (t1 t2 t3 t4 t5 t6 t7 t8 : Tok) (h' : Heap) (tk' : Nat), k = o0 / 4 % 4 → low = o1 * 256 + o2 → inst = low % 4096 → mac = o3 * 1099511627776 + o4 * 4294967296 + o5 * 16777216 + o6 * 65536 + o7 * 256 + o8 → cost = o9 * 16777216 + o10 * 65536 + o11 * 256 + o12 → prio = o13 / 16 * 4096 → port = o14 / 16 * 16 → v1 = bitAt o0 1 → v2 = bitAt o0 2 → v3 = bitAt o0 16 → v4 = bitAt o0 32 → v5 = bitAt o0 64 → Fr h₀ L h' m → News h₀ L h' ((D, tupO [.int inst t1, .ref rg, .int cost t4, .int prio t5, .int port t6, .int o15 t7, .str (roleAt k) t8, .ref T]) :: (rg, tupO [.int low t2, .int mac t3]) :: (T, tupO [.bool v1, .bool v2, .bool v3, .bool v4, .bool v5]) :: led) → Q (.ref D) { s with heap := h', toks := tk' }):
  wpAny (model prg w) (ktrTop dp un gd cn cs L a ccd cl outer) (call (.ref (k_addr% "_law_told")) [.bytes b tb]) Q E s :=
  ltold_in ⟨dp, un, gd, cn, cs, L, a, ccd, cl, outer⟩ A₀ base h₀ m s Q E led b tb o0 o1 o2 o3 o4 o5 o6 o7 o8 o9 o10 o11 o12 o13 o14 o15 B F X N T hk hb hr0 hr1 hr2 hr13 hr14 hd hu ret
theorem wdoL100 : True := by
  k_with "off L100" => skip
  trivial
end
section
set_option maxHeartbeats 800000
theorem take_at {w : World} {p : Program} {loose : List Str} {mean : ExcName → Option Value} {mg mb : Str → Option Value}
  {dp un : Nat} {gd : Option (List Code)} {cn : Str} {cs : Scope} {a : Addr} {ccd : Value} {cl : List (Str × Addr)} {outer : List Env} {A₀ : Around} {base h₀ : Heap} {L : Addr} {m : Str → Option Value} {s : Shared} {Q E : Value → Shared → Prop}
  {src : Addr} {x y : Int} {tx ty : Tok} {n : Nat} {all rest : Led} {k : Int} {tk : Tok}
  (F : Fr h₀ L s.heap m) (B : Below A₀ base outer h₀) (X : (KH w.params).In h₀) (N : News h₀ L s.heap all) (wo : Without src (pool x y tx ty n) all rest) (hne : ∀ p ∈ rest, p.1 ≠ src)
  (T : Top p loose mean mg mb h₀) (hk : cs.kind = .function) (hp : 0 ≤ x ∧ 0 ≤ y ∧ y < 2147483647) (hk1 : 1 ≤ k) (hk2 : k ≤ 281474976710656)
  (hd : dp + 1 < recursionLimit) (hu : un + 8 < cLine)
  (ret : ∀ (d x' y' : Int) (t tx' ty' : Tok) (h' : Heap) (tk' : Nat), Fr h₀ L h' m → News h₀ L h' ((src, pool x' y' tx' ty' n) :: rest) → 0 ≤ d → d < k → 0 ≤ x' ∧ 0 ≤ y' ∧ y' < 2147483647 → Q (.int d t) { s with heap := h', toks := tk' }) :
  wpAny (model prg w) (ktrTop dp un gd cn cs L a ccd cl outer) (call (.ref 164) [.ref src, .int k tk]) Q E s :=
  take_spec dp un gd cn cs a ccd cl outer A₀ base h₀ L m s Q E src x y tx ty n rest k tk B F X (fun p hp => N p (wo.sub p hp)) hne T hk hp hk1 (by omega) hd hu ret
end
section
set_option maxHeartbeats 800000
theorem wdsL77 : True := by
  k_with "call ref" =>
    fail_if_success (k_extra "off L77")
    ((k_here; (with_reducible show wpAny _ _ (call (Value.ref 164) [Value.ref _, Value.int _ _]) _ _ _); k_dflt (refine' take_at ?z6761F ?z6761B ?z6761X ?z6761N ?z6761w ?z6761ne ?z6761T ?z6761K ?z6761p ?z6761a ?z6761b ?z6761d ?z6761u ?_; (case z6761F => k_asm); (case z6761B => k_asm); (case z6761X => k_asm); (case z6761N => k_asm); (case z6761w => k_upd); (case z6761ne => k_all); (case z6761T => k_asm); (case z6761K => first | exact rfl | assumption); (case z6761p => assumption); (case z6761a => first | decide | omega); (case z6761b => first | decide | omega); (case z6761d => ktr_room); (case z6761u => ktr_room); intro d' x' y' t' tx' ty' h' tk' F' N' lo' hi' hp'; (try dsimp only))))
  k_with "call builtin:len" =>
    fail_if_success (k_extra "off L77")
    ((k_here; (with_reducible show wpAny _ _ (call (Value.builtin "len") [Value.ref _]) _ _ _); k_dflt (refine' len_list ?z8347hl ?z8347hf ?_; (case z8347hl => exact News.isList (by k_asm) (by k_mem)); (case z8347hf => (simp only [List.size_toArray]; omega)); (try simp only [List.size_toArray]))))
  k_with "subscriptTail" =>
    fail_if_success (k_extra "off L77")
    ((k_here; (with_reducible show wpAny _ _ (subscriptTail _ _ (Value.ref _) (Value.int _ _)) _ _ _); k_dflt (refine' item_any ?z4897hl ?z4897a ?z4897b ?z4897z ?_ ?z4897hs; (case z4897hl => exact News.isList (by k_asm) (by k_mem)); (case z4897a => omega); (case z4897b => omega); (case z4897z => omega); (case z4897hs => with_unfolding_all rfl); intro v' hv')))
  trivial
theorem news_p2 {h₀ h : Heap} {L : Addr} {a b : Addr × Obj} {r : Led} (N : News h₀ L h (a :: b :: r)) : News h₀ L h (a :: r) := by
  intro p hp
  rcases List.mem_cons.mp hp with rfl | hp
  · exact N _ (List.mem_cons_self ..)
  · exact N _ (List.mem_cons_of_mem _ (List.mem_cons_of_mem _ hp))
theorem one_spec_in {w : World} {p : Program} {loose : List Str} {mean : ExcName → Option Value} {mg mb : Str → Option Value}
  (κ : Cx) (A₀ : Around) (base h₀ : Heap) (m : Str → Option Value) (s : Shared) (Q E : Value → Shared → Prop)
  (rest : Led) (src th : Addr) (x y : Int) (tx ty : Tok) (n n1 : Nat) (vs : List Value)
  (B : Below A₀ base κ.outer h₀) (F : Fr h₀ κ.L s.heap m) (X : (KH w.params).In h₀) (N : News h₀ κ.L s.heap ((src, pool x y tx ty n) :: rest))
  (T : Top p loose mean mg mb h₀) (hk : κ.cs.kind = .function) (hm : (th, listOf vs.toArray n1) ∈ rest) (hne : ∀ p ∈ rest, p.1 ≠ src) (hp : 0 ≤ x ∧ 0 ≤ y ∧ y < 2147483647) (hl1 : 1 ≤ vs.length) (hl2 : vs.length ≤ 1000)
  (hd : κ.dp + 10 < recursionLimit) (hu : κ.un + 100 < cLine)
  (ret : ∀ (v : Value) (x' y' : Int) (tx' ty' : Tok) (h' : Heap) (tk' : Nat), v ∈ vs → Fr h₀ κ.L h' m → News h₀ κ.L h' ((src, pool x' y' tx' ty' n) :: rest) → 0 ≤ x' ∧ 0 ≤ y' ∧ y' < 2147483647 → Q v { s with heap := h', toks := tk' }):
  wpAny (model prg w) (T1 κ) (call (.ref (k_addr% "_law_one")) [.ref src, .ref th]) Q E s := (by exact use_of : Use _ (by
 first
 | (
  have N9 : News h₀ κ.L s.heap ((src, pool x y tx ty n) :: (th, listOf vs.toArray n1) :: rest) := by
    intro p9 hp9
    simp only [List.mem_cons] at hp9
    rcases hp9 with rfl | rfl | hp9
    · exact N _ (List.mem_cons_self ..)
    · exact N _ (List.mem_cons_of_mem _ hm)
    · exact N _ (List.mem_cons_of_mem _ hp9)
  clear N
  have hne9 : ∀ p ∈ (th, listOf vs.toArray n1) :: rest, p.1 ≠ src := by
    intro p9 hp9
    rcases List.mem_cons.mp hp9 with rfl | hp9
    · exact hne _ hm
    · exact hne _ hp9
  clear hne
  refine wpAny_call ?_
  k_dflt k_enter
  k_steps
  all_goals exact ret _ _ _ _ _ _ _ (List.mem_of_getElem? (by assumption)) (by k_asm) (news_p2 (by assumption)) (by assumption))
 | fail))
theorem one_spec {w : World} {p : Program} {loose : List Str} {mean : ExcName → Option Value} {mg mb : Str → Option Value}
  (dp un : Nat) (gd : Option (List Code)) (cn : Str) (cs : Scope) (a : Addr) (ccd : Value) (cl : List (Str × Addr)) (outer : List Env) (A₀ : Around) (base h₀ : Heap) (L : Addr) (m : Str → Option Value) (s : Shared) (Q E : Value → Shared → Prop)
  (rest : Led) (src th : Addr) (x y : Int) (tx ty : Tok) (n n1 : Nat) (vs : List Value)
  (B : Below A₀ base outer h₀) (F : Fr h₀ L s.heap m) (X : (KH w.params).In h₀) (N : News h₀ L s.heap ((src, pool x y tx ty n) :: rest))
  (T : Top p loose mean mg mb h₀) (hk : cs.kind = .function) (hm : (th, listOf vs.toArray n1) ∈ rest) (hne : ∀ p ∈ rest, p.1 ≠ src) (hp : 0 ≤ x ∧ 0 ≤ y ∧ y < 2147483647) (hl1 : 1 ≤ vs.length) (hl2 : vs.length ≤ 1000)
  (hd : dp + 10 < recursionLimit) (hu : un + 100 < cLine)
  (ret : ∀ (v : Value) (x' y' : Int) (tx' ty' : Tok) (h' : Heap) (tk' : Nat), v ∈ vs → Fr h₀ L h' m → News h₀ L h' ((src, pool x' y' tx' ty' n) :: rest) → 0 ≤ x' ∧ 0 ≤ y' ∧ y' < 2147483647 → Q v { s with heap := h', toks := tk' }):
  wpAny (model prg w) (ktrTop dp un gd cn cs L a ccd cl outer) (call (.ref (k_addr% "_law_one")) [.ref src, .ref th]) Q E s :=
  one_spec_in ⟨dp, un, gd, cn, cs, L, a, ccd, cl, outer⟩ A₀ base h₀ m s Q E rest src th x y tx ty n n1 vs B F X N T hk hm hne hp hl1 hl2 hd hu ret
theorem wdoL77 : True := by
  k_with "off L77" => skip
  trivial
end
section
set_option maxHeartbeats 2000000
def AllInt (vs : List Value) : Prop := ∀ v ∈ vs, ∃ k t, v = .int k t
theorem AllInt.nil : AllInt [] := fun _ h => nomatch h
theorem AllInt.cons {k : Int} {t : Tok} {vs : List Value} (h : AllInt vs) : AllInt (.int k t :: vs) := fun v hv => by
  rcases List.mem_cons.mp hv with rfl | hv
  · exact ⟨k, t, rfl⟩
  · exact h v hv
def AllStr (vs : List Value) : Prop := ∀ v ∈ vs, ∃ k t, v = .str k t
theorem AllStr.nil : AllStr [] := fun _ h => nomatch h
theorem AllStr.cons {k : Str} {t : Tok} {vs : List Value} (h : AllStr vs) : AllStr (.str k t :: vs) := fun v hv => by
  rcases List.mem_cons.mp hv with rfl | hv
  · exact ⟨k, t, rfl⟩
  · exact h v hv
theorem one_any {w : World} {p : Program} {loose : List Str} {mean : ExcName → Option Value} {mg mb : Str → Option Value}
  {dp un : Nat} {gd : Option (List Code)} {cn : Str} {cs : Scope} {a : Addr} {ccd : Value} {cl : List (Str × Addr)} {outer : List Env} {A₀ : Around} {base h₀ : Heap} {L : Addr} {m : Str → Option Value} {s : Shared} {Q E : Value → Shared → Prop}
  {src th : Addr} {x y : Int} {tx ty : Tok} {n n1 : Nat} {vs : List Value} {all rest : Led}
  (F : Fr h₀ L s.heap m) (B : Below A₀ base outer h₀) (X : (KH w.params).In h₀) (N : News h₀ L s.heap all) (wo : Without src (pool x y tx ty n) all rest) (hm : (th, listOf vs.toArray n1) ∈ rest) (hne : ∀ p ∈ rest, p.1 ≠ src)
  (T : Top p loose mean mg mb h₀) (hk : cs.kind = .function) (hp : 0 ≤ x ∧ 0 ≤ y ∧ y < 2147483647) (hl1 : 1 ≤ vs.length) (hl2 : vs.length ≤ 1000)
  (hd : dp + 10 < recursionLimit) (hu : un + 100 < cLine)
  (ret : ∀ (v : Value) (x' y' : Int) (tx' ty' : Tok) (h' : Heap) (tk' : Nat), v ∈ vs → Fr h₀ L h' m → News h₀ L h' ((src, pool x' y' tx' ty' n) :: rest) → 0 ≤ x' ∧ 0 ≤ y' ∧ y' < 2147483647 → Q v { s with heap := h', toks := tk' }) :
  wpAny (model prg w) (ktrTop dp un gd cn cs L a ccd cl outer) (call (.ref (k_addr% "_law_one")) [.ref src, .ref th]) Q E s :=
  one_spec dp un gd cn cs a ccd cl outer A₀ base h₀ L m s Q E rest src th x y tx ty n n1 vs B F X (fun p hp => N p (wo.sub p hp)) T hk hm hne hp hl1 hl2 hd hu ret
theorem one_int {w : World} {p : Program} {loose : List Str} {mean : ExcName → Option Value} {mg mb : Str → Option Value}
  {dp un : Nat} {gd : Option (List Code)} {cn : Str} {cs : Scope} {a : Addr} {ccd : Value} {cl : List (Str × Addr)} {outer : List Env} {A₀ : Around} {base h₀ : Heap} {L : Addr} {m : Str → Option Value} {s : Shared} {Q E : Value → Shared → Prop}
  {src th : Addr} {x y : Int} {tx ty : Tok} {n n1 : Nat} {vs : List Value} {all rest : Led}
  (F : Fr h₀ L s.heap m) (B : Below A₀ base outer h₀) (X : (KH w.params).In h₀) (N : News h₀ L s.heap all) (wo : Without src (pool x y tx ty n) all rest) (hm : (th, listOf vs.toArray n1) ∈ rest) (hne : ∀ p ∈ rest, p.1 ≠ src)
  (T : Top p loose mean mg mb h₀) (hk : cs.kind = .function) (hp : 0 ≤ x ∧ 0 ≤ y ∧ y < 2147483647) (hl1 : 1 ≤ vs.length) (hl2 : vs.length ≤ 1000) (hv : AllInt vs)
  (hd : dp + 10 < recursionLimit) (hu : un + 100 < cLine)
  (ret : ∀ (k : Int) (t : Tok) (x' y' : Int) (tx' ty' : Tok) (h' : Heap) (tk' : Nat), Fr h₀ L h' m → News h₀ L h' ((src, pool x' y' tx' ty' n) :: rest) → 0 ≤ x' ∧ 0 ≤ y' ∧ y' < 2147483647 → Q (.int k t) { s with heap := h', toks := tk' }) :
  wpAny (model prg w) (ktrTop dp un gd cn cs L a ccd cl outer) (call (.ref (k_addr% "_law_one")) [.ref src, .ref th]) Q E s :=
  one_spec dp un gd cn cs a ccd cl outer A₀ base h₀ L m s Q E rest src th x y tx ty n n1 vs B F X (fun p hp => N p (wo.sub p hp)) T hk hm hne hp hl1 hl2 hd hu (fun v x' y' tx' ty' h' tk' hm' F' N' P' => by obtain ⟨k, t, rfl⟩ := hv v hm'; exact ret k t x' y' tx' ty' h' tk' F' N' P')
theorem one_str {w : World} {p : Program} {loose : List Str} {mean : ExcName → Option Value} {mg mb : Str → Option Value}
  {dp un : Nat} {gd : Option (List Code)} {cn : Str} {cs : Scope} {a : Addr} {ccd : Value} {cl : List (Str × Addr)} {outer : List Env} {A₀ : Around} {base h₀ : Heap} {L : Addr} {m : Str → Option Value} {s : Shared} {Q E : Value → Shared → Prop}
  {src th : Addr} {x y : Int} {tx ty : Tok} {n n1 : Nat} {vs : List Value} {all rest : Led}
  (F : Fr h₀ L s.heap m) (B : Below A₀ base outer h₀) (X : (KH w.params).In h₀) (N : News h₀ L s.heap all) (wo : Without src (pool x y tx ty n) all rest) (hm : (th, listOf vs.toArray n1) ∈ rest) (hne : ∀ p ∈ rest, p.1 ≠ src)
  (T : Top p loose mean mg mb h₀) (hk : cs.kind = .function) (hp : 0 ≤ x ∧ 0 ≤ y ∧ y < 2147483647) (hl1 : 1 ≤ vs.length) (hl2 : vs.length ≤ 1000) (hv : AllStr vs)
  (hd : dp + 10 < recursionLimit) (hu : un + 100 < cLine)
  (ret : ∀ (k : Str) (t : Tok) (x' y' : Int) (tx' ty' : Tok) (h' : Heap) (tk' : Nat), Fr h₀ L h' m → News h₀ L h' ((src, pool x' y' tx' ty' n) :: rest) → 0 ≤ x' ∧ 0 ≤ y' ∧ y' < 2147483647 → Q (.str k t) { s with heap := h', toks := tk' }) :
  wpAny (model prg w) (ktrTop dp un gd cn cs L a ccd cl outer) (call (.ref (k_addr% "_law_one")) [.ref src, .ref th]) Q E s :=
  one_spec dp un gd cn cs a ccd cl outer A₀ base h₀ L m s Q E rest src th x y tx ty n n1 vs B F X (fun p hp => N p (wo.sub p hp)) T hk hm hne hp hl1 hl2 hd hu (fun v x' y' tx' ty' h' tk' hm' F' N' P' => by obtain ⟨k, t, rfl⟩ := hv v hm'; exact ret k t x' y' tx' ty' h' tk' F' N' P')
end
section
set_option maxHeartbeats 2000000
section scr
open PySem
variable {prog : Program} {w : World} {A : Around} {E : Value → Shared → Prop} {s : Shared} {Q : Value → Shared → Prop} {h₀ : Heap} {L l : Addr} {m : Str → Option Value} {vs : List Value} {ns : List Int} {u : Tok}
theorem scr_len (F : Fr h₀ L s.heap m) (hs : h₀.IsList l vs.toArray) (hI : IntsAre vs ns) (hl : ns.length ≤ 63) (h : ∀ k, k = (ns.length : Int) → ∀ t n, Q (.int k t) { s with toks := n }) :
    wpAny (model prog w) A (call (.builtin "len") [.ref l]) Q E s := by
  have e : vs.toArray.size = ns.length := by rw [List.size_toArray, hI.length]
  refine len_list (hs.at fun o e => F.keep _ _ e) (by rw [e]; omega) ?_
  rw [e]
  exact h _ rfl _ _
theorem scr_item {value slice : PySem.Expr} (F : Fr h₀ L s.heap m) (hs : h₀.IsList l vs.toArray) (hI : IntsAre vs ns) (hl : (0 : Int) < (ns.length : Int)) (h : ∀ k t, Q (.int k t) s)
    (hq : subscripted slice false (.ref l) (.int 0 u) = operate [.ref l, .int 0 u] (getItem (.ref l) (.int 0 u)) := by with_unfolding_all rfl) :
    wpAny (model prog w) A (subscriptTail value slice (.ref l) (.int 0 u)) Q E s := by
  cases hI with
  | nil => exact absurd hl (by simp)
  | cons k t r => exact item_lit (hs.at fun o e => F.keep _ _ e) (by decide) (by decide) rfl (h k t) hq
theorem scr_up {g : Heap} (hs : h₀.IsList l vs.toArray) (F : Fr h₀ L g m) : g.IsList l vs.toArray := hs.at fun o e => F.keep _ _ e
end scr
end
section
set_option maxHeartbeats 4000000
theorem wdsL124 : True := by
  k_with "call builtin:len" =>
    fail_if_success (k_extra "off L124")
    ((k_here; (with_reducible show wpAny _ _ (call (Value.builtin "len") [Value.ref _]) _ _ _); k_dflt (refine' scr_len ?z1196F ?z1196s ?z1196i ?z1196l ?_; (case z1196F => k_asm); (case z1196s => first | assumption | exact scr_up (by assumption) (by assumption)); (case z1196i => assumption); (case z1196l => assumption); intro k' hk' t' n'; (try dsimp only))))
  k_with "subscriptTail" =>
    fail_if_success (k_extra "off L124")
    ((k_here; (with_reducible show wpAny _ _ (subscriptTail _ _ (Value.ref _) (Value.int 0 _)) _ _ _); k_dflt (refine' scr_item ?z5307F ?z5307s ?z5307i ?z5307l ?_ ?z5307q; (case z5307F => k_asm); (case z5307s => first | assumption | exact scr_up (by assumption) (by assumption)); (case z5307i => assumption); (case z5307l => omega); (case z5307q => with_unfolding_all rfl); intro k' t'; (try dsimp only))))
  k_with "newList" =>
    fail_if_success (k_extra "off L124")
    (k_here; k_dflt (refine' newList_L ?nl1 ?nl2 ?_; (case nl1 => k_asm); (case nl2 => k_asm); k_whole); intro l' h' F' o9 N' l1; (try k_lt l1); (try k_sweep))
  k_with "newTuple" =>
    fail_if_success (k_extra "off L124")
    (k_here; k_dflt (refine' newTuple_L ?nt1 ?nt2 ?_ ?nt3; (case nt1 => k_asm); (case nt2 => k_asm); (case nt3 => kmk_size)); intro D' h' F' o9 N' l1; (try k_lt l1); (try k_sweep))
  trivial
theorem pool_x {k : Int} {b : Bool} : 0 ≤ (if -1 - k > k then -1 - k else k) * (if b = true then 1 else 0) := by
  split <;> split <;> omega
theorem poolc_in {w : World} {p : Program} {loose : List Str} {mean : ExcName → Option Value} {mg mb : Str → Option Value}
  (κ : Cx) (A₀ : Around) (base h₀ : Heap) (m : Str → Option Value) (s : Shared) (Q E : Value → Shared → Prop)
  (rest : Led) (scr : Addr) (vs : List Value) (ns : List Int) (tm : Tok)
  (B : Below A₀ base κ.outer h₀) (F : Fr h₀ κ.L s.heap m) (X : (KH w.params).In h₀) (N : News h₀ κ.L s.heap (rest))
  (T : Top p loose mean mg mb h₀) (hk : κ.cs.kind = .function) (hs : h₀.IsList scr vs.toArray) (hI : IntsAre vs ns) (hlen : ns.length ≤ 63)
  (hd : κ.dp + 30 < recursionLimit) (hu : κ.un + 300 < cLine)
  (ret : ∀ (D : Addr) (x y : Int) (tx ty : Tok) (h' : Heap) (tk' : Nat), Fr h₀ κ.L h' m → News h₀ κ.L h' ((D, pool x y tx ty 0) :: rest) → 0 ≤ x ∧ 0 ≤ y ∧ y < 2147483647 → (∀ p ∈ rest, p.1 ≠ D) → Q (.ref D) { s with heap := h', toks := tk' }):
  wpAny (model prg w) (T1 κ) (call (.ref (k_addr% "_law_pool")) [.ref scr, .int 0 tm]) Q E s := (by exact use_of : Use _ (by
 first
 | (
  refine wpAny_call ?_
  k_dflt k_enter
  k_steps
  all_goals (refine' ret _ _ _ _ _ _ _ ?f7 ?n7 ?p7 ?o7; (case f7 => k_asm); (case n7 => k_asm); (case p7 => exact ⟨pool_x, by assumption, by assumption⟩); (case o7 => exact lt_self (by assumption))))
 | fail))
theorem poolc {w : World} {p : Program} {loose : List Str} {mean : ExcName → Option Value} {mg mb : Str → Option Value}
  (dp un : Nat) (gd : Option (List Code)) (cn : Str) (cs : Scope) (a : Addr) (ccd : Value) (cl : List (Str × Addr)) (outer : List Env) (A₀ : Around) (base h₀ : Heap) (L : Addr) (m : Str → Option Value) (s : Shared) (Q E : Value → Shared → Prop)
  (rest : Led) (scr : Addr) (vs : List Value) (ns : List Int) (tm : Tok)
  (B : Below A₀ base outer h₀) (F : Fr h₀ L s.heap m) (X : (KH w.params).In h₀) (N : News h₀ L s.heap (rest))
  (T : Top p loose mean mg mb h₀) (hk : cs.kind = .function) (hs : h₀.IsList scr vs.toArray) (hI : IntsAre vs ns) (hlen : ns.length ≤ 63)
  (hd : dp + 30 < recursionLimit) (hu : un + 300 < cLine)
  (ret : ∀ (D : Addr) (x y : Int) (tx ty : Tok) (h' : Heap) (tk' : Nat), Fr h₀ L h' m → News h₀ L h' ((D, pool x y tx ty 0) :: rest) → 0 ≤ x ∧ 0 ≤ y ∧ y < 2147483647 → (∀ p ∈ rest, p.1 ≠ D) → Q (.ref D) { s with heap := h', toks := tk' }):
  wpAny (model prg w) (ktrTop dp un gd cn cs L a ccd cl outer) (call (.ref (k_addr% "_law_pool")) [.ref scr, .int 0 tm]) Q E s :=
  poolc_in ⟨dp, un, gd, cn, cs, L, a, ccd, cl, outer⟩ A₀ base h₀ m s Q E rest scr vs ns tm B F X N T hk hs hI hlen hd hu ret
theorem wdoL124 : True := by
  k_with "off L124" => skip
  trivial
end
section
set_option maxHeartbeats 2000000
theorem item_eq {prog : Program} {w : World} {A : Around} {E : Value → Shared → Prop} {s : Shared} {k : Int} {u : Tok} {Q : Value → Shared → Prop} {value slice : PySem.Expr} {l : Addr} {vs : List Value} {v : Value} (j : Nat) (e : k = (j : Int)) (hj : j ≤ 1000)
    (hl : s.heap.IsList l vs.toArray) (hx : vs[j]? = some v) (h : Q v s)
    (hs : subscripted slice false (.ref l) (.int k u) = operate [.ref l, .int k u] (getItem (.ref l) (.int k u)) := by with_unfolding_all rfl) :
    wpAny (model prog w) A (subscriptTail value slice (.ref l) (.int k u)) Q E s :=
  item_lit hl (by omega) (by omega) (by rw [e]; simpa using hx) h hs
end
section
set_option maxHeartbeats 2000000
/-- the pool's address is no tuple's -/
theorem off_tup {h₀ h : Heap} {L src V : Addr} {x y : Int} {tx ty : Tok} {n : Nat} {vs : List Value} {led r1 r2 rest : Led} (N : News h₀ L h led) (ws : Without src (pool x y tx ty n) led r1) (wv : Without V (tupO vs) led r2) (r : ∀ p ∈ rest, p.1 ≠ src) : ∀ p ∈ (V, tupO vs) :: rest, p.1 ≠ src := fun p hp => by
  rcases List.mem_cons.mp hp with rfl | hp
  · intro e
    have a := (N _ (mem_pick ws)).1
    have b := (N _ (mem_pick wv)).1
    dsimp only at a b e
    rw [e, a] at b
    have c := congrArg Obj.cls (Option.some.inj b)
    simp [W.listOf] at c
  · exact r p hp
theorem off_list {h₀ h : Heap} {L src V : Addr} {x y : Int} {tx ty : Tok} {n k : Nat} {vs : List Value} {led r1 r2 rest : Led} (N : News h₀ L h led) (ws : Without src (pool x y tx ty n) led r1) (wv : Without V (listOf vs.toArray k) led r2) (hl : vs.length ≠ 2) (r : ∀ p ∈ rest, p.1 ≠ src) : ∀ p ∈ (V, listOf vs.toArray k) :: rest, p.1 ≠ src := fun p hp => by
  rcases List.mem_cons.mp hp with rfl | hp
  · intro e
    have a := (N _ (mem_pick ws)).1
    have b := (N _ (mem_pick wv)).1
    dsimp only at a b e
    rw [e, a] at b
    have c := congrArg Obj.data (Option.some.inj b)
    simp only [W.listOf, Data.seq.injEq] at c
    have d := congrArg Array.size c.1
    simp at d
    exact hl d.symm
  · exact r p hp
end
section
set_option maxHeartbeats 4000000
theorem wdsL107 : True := by
  k_with "call ref" =>
    fail_if_success (k_extra "off L107")
    ((k_here; (with_reducible show wpAny _ _ (call (Value.ref 164) [Value.ref _, Value.int _ _]) _ _ _); k_dflt (refine' take_at ?z6761F ?z6761B ?z6761X ?z6761N ?z6761w ?z6761ne ?z6761T ?z6761K ?z6761p ?z6761a ?z6761b ?z6761d ?z6761u ?_; (case z6761F => k_asm); (case z6761B => k_asm); (case z6761X => k_asm); (case z6761N => k_asm); (case z6761w => k_upd); (case z6761ne => k_all); (case z6761T => k_asm); (case z6761K => first | exact rfl | assumption); (case z6761p => assumption); (case z6761a => first | decide | omega); (case z6761b => first | decide | omega); (case z6761d => ktr_room); (case z6761u => ktr_room); intro d' x' y' t' tx' ty' h' tk' F' N' lo' hi' hp'; (try dsimp only))))
  k_with "call ref" =>
    fail_if_success (k_extra "off L107")
    ((k_here; (with_reducible show wpAny _ _ (call (Value.ref (k_addr% "_law_one")) [Value.ref _, Value.ref _]) _ _ _); k_dflt (first
      | (refine' one_int ?z3295F ?z3295B ?z3295X ?z3295N ?z3295w ?z3295hm ?z3295ne ?z3295T ?z3295K ?z3295p ?z3295l1 ?z3295l2 ?z3295v ?z3295d ?z3295u ?_; (case z3295F => k_asm); (case z3295B => k_asm); (case z3295X => k_asm); (case z3295N => k_asm); (case z3295w => k_upd); (case z3295hm => k_mem); (case z3295v => repeat (first | exact AllInt.nil | refine AllInt.cons ?_)); (case z3295ne => k_all); (case z3295T => k_asm); (case z3295K => first | exact rfl | assumption); (case z3295p => assumption); (case z3295l1 => simp only [List.length_cons, List.length_nil]; omega); (case z3295l2 => simp only [List.length_cons, List.length_nil]; omega); (case z3295d => ktr_room); (case z3295u => ktr_room); intro k' t' x' y' tx' ty' h' tk' F' N' hp'; (try dsimp only))
      | (refine' one_str ?z3295F ?z3295B ?z3295X ?z3295N ?z3295w ?z3295hm ?z3295ne ?z3295T ?z3295K ?z3295p ?z3295l1 ?z3295l2 ?z3295v ?z3295d ?z3295u ?_; (case z3295F => k_asm); (case z3295B => k_asm); (case z3295X => k_asm); (case z3295N => k_asm); (case z3295w => k_upd); (case z3295hm => k_mem); (case z3295v => repeat (first | exact AllStr.nil | refine AllStr.cons ?_)); (case z3295ne => k_all); (case z3295T => k_asm); (case z3295K => first | exact rfl | assumption); (case z3295p => assumption); (case z3295l1 => simp only [List.length_cons, List.length_nil]; omega); (case z3295l2 => simp only [List.length_cons, List.length_nil]; omega); (case z3295d => ktr_room); (case z3295u => ktr_room); intro k' t' x' y' tx' ty' h' tk' F' N' hp'; (try dsimp only))
      | (refine' one_any ?z3295F ?z3295B ?z3295X ?z3295N ?z3295w ?z3295hm ?z3295ne ?z3295T ?z3295K ?z3295p ?z3295l1 ?z3295l2 ?z3295d ?z3295u ?_; (case z3295F => k_asm); (case z3295B => k_asm); (case z3295X => k_asm); (case z3295N => k_asm); (case z3295w => k_upd); (case z3295hm => k_mem); (case z3295ne => k_all); (case z3295T => k_asm); (case z3295K => first | exact rfl | assumption); (case z3295p => assumption); (case z3295l1 => simp only [List.length_cons, List.length_nil]; omega); (case z3295l2 => simp only [List.length_cons, List.length_nil]; omega); (case z3295d => ktr_room); (case z3295u => ktr_room); intro v' x' y' tx' ty' h' tk' hv' F' N' hp'; (try dsimp only)))))
  k_with "subscriptTail" =>
    fail_if_success (k_extra "off L107")
    ((k_here; (with_reducible show wpAny _ _ (subscriptTail _ _ (Value.ref _) (Value.int _ _)) _ _ _); k_dflt (first
      | (refine' item_eq 0 ?z8e ?z8j ?z8hl ?z8hx ?_ ?z8hs; (case z8e => omega); (case z8j => decide); (case z8hl => is_list); (case z8hx => rfl); (case z8hs => with_unfolding_all rfl))
      | (refine' item_eq 1 ?z8e ?z8j ?z8hl ?z8hx ?_ ?z8hs; (case z8e => omega); (case z8j => decide); (case z8hl => is_list); (case z8hx => rfl); (case z8hs => with_unfolding_all rfl)))))
  k_with "my k_all" =>
    fail_if_success (k_extra "off L107")
    (first | (with_reducible assumption) | ((with_reducible show ∀ p ∈ (_ :: _), _); refine' List.forall_mem_cons.mpr ⟨?_, ?_⟩; (next => (dsimp only; first | (with_reducible assumption) | (with_reducible exact Ne.symm (by assumption)) | k_ne)); (next => k_all)) | exact lt_self (by assumption) | exact lt_up (by assumption) | assumption)
  k_with "McL" =>
    fail_if_success (k_extra "off L107")
    (first | (with_reducible refine McL.done ?_) | ((first | (with_reducible show McL _ _ _ _ _ _ _ _ _ _ _ _ _ _ (_ :: _) _ _) | (fail_if_success (k_extra "mcl guard"))); with_unfolding_all first
      | (refine McL.turn ?_; intro I' oI' C' oC' D' m' h' tk' E' hC' hasg' F' N' off' ne'; (try dsimp only at hasg'); (first | (obtain ⟨t9', u9', ha9', hb9'⟩ := hasg') | (obtain ⟨t9', ha9'⟩ := hasg') | skip))
      | refine McL.done ?_))
  k_with "McD" =>
    fail_if_success (k_extra "off L107")
    (first | (with_reducible refine McD.done ?_) | (with_unfolding_all first
      | (refine McD.turn ?_; intro I' oI' C' oC' D' oD' m' h' tk' E' hC' hasg' F' N' off' ne'; (try dsimp only at hasg'); (first | (obtain ⟨t9', u9', ha9', hb9'⟩ := hasg') | (obtain ⟨t9', ha9'⟩ := hasg') | skip))
      | refine McD.done ?_))
  k_with "my k_lt" =>
    fail_if_success (k_extra "off L107")
    skip
  k_with "mem9" =>
    fail_if_success (k_extra "off L107")
    (first | ((with_reducible show Has _ (_ :: _)); first | exact Has.head | exact Has.tail (by k_extra "mem9")) | exact Has.of (by assumption))
  k_with "my k_ne" =>
    fail_if_success (k_extra "off L107")
    ((try dsimp only); first | assumption | exact Ne.symm (by assumption) | exact neP (by assumption) (by k_extra "mem9") | exact neQ (by assumption) (by k_extra "mem9"))
  k_with "newList" =>
    fail_if_success (k_extra "off L107")
    (k_here; k_dflt (refine' newList_L ?nl1 ?nl2 ?_; (case nl1 => k_asm); (case nl2 => k_asm); k_whole); intro l' h' F' o9 N' l1; (try k_lt l1); (try k_sweep))
  k_with "newTuple" =>
    fail_if_success (k_extra "off L107")
    (k_here; k_dflt (refine' newTuple_L ?nt1 ?nt2 ?_ ?nt3; (case nt1 => k_asm); (case nt2 => k_asm); (case nt3 => kmk_size)); intro D' h' F' o9 N' l1; (try k_lt l1); (try k_sweep))
  trivial
theorem vec4_in {w : World} {p : Program} {loose : List Str} {mean : ExcName → Option Value} {mg mb : Str → Option Value}
  (κ : Cx) (A₀ : Around) (base h₀ : Heap) (m : Str → Option Value) (s : Shared) (Q E : Value → Shared → Prop)
  (rest : Led) (src : Addr) (x y : Int) (tx ty : Tok) (n : Nat) (tm : Tok)
  (B : Below A₀ base κ.outer h₀) (F : Fr h₀ κ.L s.heap m) (X : (KH w.params).In h₀) (N : News h₀ κ.L s.heap ((src, pool x y tx ty n) :: rest))
  (T : Top p loose mean mg mb h₀) (hk : κ.cs.kind = .function) (hne : ∀ p ∈ rest, p.1 ≠ src) (hp : 0 ≤ x ∧ 0 ≤ y ∧ y < 2147483647)
  (hd : κ.dp + 30 < recursionLimit) (hu : κ.un + 300 < cLine)
  (ret : ∀ (V z b p : Addr) (c z0 z1 b0 b1 p0 p1 : Int) (tc t10 t11 t20 t21 t30 t31 : Tok) (x' y' : Int) (tx' ty' : Tok) (h' : Heap) (tk' : Nat), Fr h₀ κ.L h' m → News h₀ κ.L h' ((src, pool x' y' tx' ty' n) :: (V, tupO [.ref z, .int c tc, .ref b, .ref p]) :: (z, tupO [.int z0 t10, .int z1 t11]) :: (b, tupO [.int b0 t20, .int b1 t21]) :: (p, tupO [.int p0 t30, .int p1 t31]) :: rest) → 0 ≤ x' ∧ 0 ≤ y' ∧ y' < 2147483647 → (∀ q9 ∈ (V, tupO [.ref z, .int c tc, .ref b, .ref p]) :: (z, tupO [.int z0 t10, .int z1 t11]) :: (b, tupO [.int b0 t20, .int b1 t21]) :: (p, tupO [.int p0 t30, .int p1 t31]) :: rest, q9.1 ≠ src) → Q (.ref V) { s with heap := h', toks := tk' }):
  wpAny (model prg w) (T1 κ) (call (.ref (k_addr% "_law_vector")) [.ref src, .int 4 tm]) Q E s := (by exact use_of : Use _ (by
 first
 | (
  refine wpAny_call ?_
  k_dflt k_enter
  k_steps
  all_goals (refine' ret _ _ _ _ _ _ _ _ _ _ _ _ _ _ _ _ _ _ _ _ _ _ _ _ ?f7 ?n7 ?p7 ?o7; (case f7 => k_asm); (case n7 => refine news_pick (by assumption) ?_; (repeat (first | exact Picks.self | (refine' Picks.cons ?w ?_; (case w => k_upd)) | refine' Picks.up ?_))); (case p7 => assumption); (case o7 => (repeat (first | assumption | (refine' off_tup (by assumption) ?ws ?wv ?_; (case ws => k_upd); (case wv => k_upd)))))))
 | fail))


theorem vec4 {w : World} {p : Program} {loose : List Str} {mean : ExcName → Option Value} {mg mb : Str → Option Value}
  (dp un : Nat) (gd : Option (List Code)) (cn : Str) (cs : Scope) (a : Addr) (ccd : Value) (cl : List (Str × Addr)) (outer : List Env) (A₀ : Around) (base h₀ : Heap) (L : Addr) (m : Str → Option Value) (s : Shared) (Q E : Value → Shared → Prop)
  (rest : Led) (src : Addr) (x y : Int) (tx ty : Tok) (n : Nat) (tm : Tok)
  (B : Below A₀ base outer h₀) (F : Fr h₀ L s.heap m) (X : (KH w.params).In h₀) (N : News h₀ L s.heap ((src, pool x y tx ty n) :: rest))
  (T : Top p loose mean mg mb h₀) (hk : cs.kind = .function) (hne : ∀ p ∈ rest, p.1 ≠ src) (hp : 0 ≤ x ∧ 0 ≤ y ∧ y < 2147483647)
  (hd : dp + 30 < recursionLimit) (hu : un + 300 < cLine)
  (ret : ∀ (V z b p : Addr) (c z0 z1 b0 b1 p0 p1 : Int) (tc t10 t11 t20 t21 t30 t31 : Tok) (x' y' : Int) (tx' ty' : Tok) (h' : Heap) (tk' : Nat), Fr h₀ L h' m → News h₀ L h' ((src, pool x' y' tx' ty' n) :: (V, tupO [.ref z, .int c tc, .ref b, .ref p]) :: (z, tupO [.int z0 t10, .int z1 t11]) :: (b, tupO [.int b0 t20, .int b1 t21]) :: (p, tupO [.int p0 t30, .int p1 t31]) :: rest) → 0 ≤ x' ∧ 0 ≤ y' ∧ y' < 2147483647 → (∀ q9 ∈ (V, tupO [.ref z, .int c tc, .ref b, .ref p]) :: (z, tupO [.int z0 t10, .int z1 t11]) :: (b, tupO [.int b0 t20, .int b1 t21]) :: (p, tupO [.int p0 t30, .int p1 t31]) :: rest, q9.1 ≠ src) → Q (.ref V) { s with heap := h', toks := tk' }):
  wpAny (model prg w) (ktrTop dp un gd cn cs L a ccd cl outer) (call (.ref (k_addr% "_law_vector")) [.ref src, .int 4 tm]) Q E s :=
  vec4_in ⟨dp, un, gd, cn, cs, L, a, ccd, cl, outer⟩ A₀ base h₀ m s Q E rest src x y tx ty n tm B F X N T hk hne hp hd hu ret
theorem vec6_in {w : World} {p : Program} {loose : List Str} {mean : ExcName → Option Value} {mg mb : Str → Option Value}
  (κ : Cx) (A₀ : Around) (base h₀ : Heap) (m : Str → Option Value) (s : Shared) (Q E : Value → Shared → Prop)
  (rest : Led) (src : Addr) (x y : Int) (tx ty : Tok) (n : Nat) (tm : Tok)
  (B : Below A₀ base κ.outer h₀) (F : Fr h₀ κ.L s.heap m) (X : (KH w.params).In h₀) (N : News h₀ κ.L s.heap ((src, pool x y tx ty n) :: rest))
  (T : Top p loose mean mg mb h₀) (hk : κ.cs.kind = .function) (hne : ∀ p ∈ rest, p.1 ≠ src) (hp : 0 ≤ x ∧ 0 ≤ y ∧ y < 2147483647)
  (hd : κ.dp + 30 < recursionLimit) (hu : κ.un + 300 < cLine)
  (ret : ∀ (V z f b p : Addr) (c e z0 z1 f0 f1 b0 b1 p0 p1 : Int) (tc te t10 t11 t40 t41 t20 t21 t30 t31 : Tok) (x' y' : Int) (tx' ty' : Tok) (h' : Heap) (tk' : Nat), Fr h₀ κ.L h' m → News h₀ κ.L h' ((src, pool x' y' tx' ty' n) :: (V, tupO [.ref z, .int e te, .ref f, .int c tc, .ref b, .ref p]) :: (z, tupO [.int z0 t10, .int z1 t11]) :: (f, tupO [.int f0 t40, .int f1 t41]) :: (b, tupO [.int b0 t20, .int b1 t21]) :: (p, tupO [.int p0 t30, .int p1 t31]) :: rest) → 0 ≤ x' ∧ 0 ≤ y' ∧ y' < 2147483647 → (∀ q9 ∈ (V, tupO [.ref z, .int e te, .ref f, .int c tc, .ref b, .ref p]) :: (z, tupO [.int z0 t10, .int z1 t11]) :: (f, tupO [.int f0 t40, .int f1 t41]) :: (b, tupO [.int b0 t20, .int b1 t21]) :: (p, tupO [.int p0 t30, .int p1 t31]) :: rest, q9.1 ≠ src) → Q (.ref V) { s with heap := h', toks := tk' }):
  wpAny (model prg w) (T1 κ) (call (.ref (k_addr% "_law_vector")) [.ref src, .int 6 tm]) Q E s := (by exact use_of : Use _ (by
 first
 | (
  refine wpAny_call ?_
  k_dflt k_enter
  k_steps
  all_goals (refine' ret _ _ _ _ _ _ _ _ _ _ _ _ _ _ _ _ _ _ _ _ _ _ _ _ _ _ _ _ _ _ _ ?f7 ?n7 ?p7 ?o7; (case f7 => k_asm); (case n7 => refine news_pick (by assumption) ?_; (repeat (first | exact Picks.self | (refine' Picks.cons ?w ?_; (case w => k_upd)) | refine' Picks.up ?_))); (case p7 => assumption); (case o7 => (repeat (first | assumption | (refine' off_tup (by assumption) ?ws ?wv ?_; (case ws => k_upd); (case wv => k_upd)))))))
 | fail))
theorem vec6 {w : World} {p : Program} {loose : List Str} {mean : ExcName → Option Value} {mg mb : Str → Option Value}
  (dp un : Nat) (gd : Option (List Code)) (cn : Str) (cs : Scope) (a : Addr) (ccd : Value) (cl : List (Str × Addr)) (outer : List Env) (A₀ : Around) (base h₀ : Heap) (L : Addr) (m : Str → Option Value) (s : Shared) (Q E : Value → Shared → Prop)
  (rest : Led) (src : Addr) (x y : Int) (tx ty : Tok) (n : Nat) (tm : Tok)
  (B : Below A₀ base outer h₀) (F : Fr h₀ L s.heap m) (X : (KH w.params).In h₀) (N : News h₀ L s.heap ((src, pool x y tx ty n) :: rest))
  (T : Top p loose mean mg mb h₀) (hk : cs.kind = .function) (hne : ∀ p ∈ rest, p.1 ≠ src) (hp : 0 ≤ x ∧ 0 ≤ y ∧ y < 2147483647)
  (hd : dp + 30 < recursionLimit) (hu : un + 300 < cLine)
  (ret : ∀ (V z f b p : Addr) (c e z0 z1 f0 f1 b0 b1 p0 p1 : Int) (tc te t10 t11 t40 t41 t20 t21 t30 t31 : Tok) (x' y' : Int) (tx' ty' : Tok) (h' : Heap) (tk' : Nat), Fr h₀ L h' m → News h₀ L h' ((src, pool x' y' tx' ty' n) :: (V, tupO [.ref z, .int e te, .ref f, .int c tc, .ref b, .ref p]) :: (z, tupO [.int z0 t10, .int z1 t11]) :: (f, tupO [.int f0 t40, .int f1 t41]) :: (b, tupO [.int b0 t20, .int b1 t21]) :: (p, tupO [.int p0 t30, .int p1 t31]) :: rest) → 0 ≤ x' ∧ 0 ≤ y' ∧ y' < 2147483647 → (∀ q9 ∈ (V, tupO [.ref z, .int e te, .ref f, .int c tc, .ref b, .ref p]) :: (z, tupO [.int z0 t10, .int z1 t11]) :: (f, tupO [.int f0 t40, .int f1 t41]) :: (b, tupO [.int b0 t20, .int b1 t21]) :: (p, tupO [.int p0 t30, .int p1 t31]) :: rest, q9.1 ≠ src) → Q (.ref V) { s with heap := h', toks := tk' }):
  wpAny (model prg w) (ktrTop dp un gd cn cs L a ccd cl outer) (call (.ref (k_addr% "_law_vector")) [.ref src, .int 6 tm]) Q E s :=
  vec6_in ⟨dp, un, gd, cn, cs, L, a, ccd, cl, outer⟩ A₀ base h₀ m s Q E rest src x y tx ty n tm B F X N T hk hne hp hd hu ret
theorem wdoL107 : True := by
  k_with "off L107" => skip
  trivial
end
section
set_option maxHeartbeats 4000000
theorem vecAt4 {w : World} {p : Program} {loose : List Str} {mean : ExcName → Option Value} {mg mb : Str → Option Value}
  {dp un : Nat} {gd : Option (List Code)} {cn : Str} {cs : Scope} {a : Addr} {ccd : Value} {cl : List (Str × Addr)} {outer : List Env} {A₀ : Around} {base h₀ : Heap} {L : Addr} {m : Str → Option Value} {s : Shared} {Q E : Value → Shared → Prop}
  {src : Addr} {x y : Int} {tx ty : Tok} {n : Nat} {tm : Tok} {all rest : Led}
  (F : Fr h₀ L s.heap m) (B : Below A₀ base outer h₀) (X : (KH w.params).In h₀) (N : News h₀ L s.heap all) (wo : Without src (pool x y tx ty n) all rest) (hne : ∀ p ∈ rest, p.1 ≠ src)
  (T : Top p loose mean mg mb h₀) (hk : cs.kind = .function) (hp : 0 ≤ x ∧ 0 ≤ y ∧ y < 2147483647) (hd : dp + 30 < recursionLimit) (hu : un + 300 < cLine)
  (ret : ∀ (V z b p : Addr) (c z0 z1 b0 b1 p0 p1 : Int) (tc t10 t11 t20 t21 t30 t31 : Tok) (x' y' : Int) (tx' ty' : Tok) (h' : Heap) (tk' : Nat), Fr h₀ L h' m → News h₀ L h' ((src, pool x' y' tx' ty' n) :: (V, tupO [.ref z, .int c tc, .ref b, .ref p]) :: (z, tupO [.int z0 t10, .int z1 t11]) :: (b, tupO [.int b0 t20, .int b1 t21]) :: (p, tupO [.int p0 t30, .int p1 t31]) :: rest) → 0 ≤ x' ∧ 0 ≤ y' ∧ y' < 2147483647 → (∀ q9 ∈ (V, tupO [.ref z, .int c tc, .ref b, .ref p]) :: (z, tupO [.int z0 t10, .int z1 t11]) :: (b, tupO [.int b0 t20, .int b1 t21]) :: (p, tupO [.int p0 t30, .int p1 t31]) :: rest, q9.1 ≠ src) → Q (.ref V) { s with heap := h', toks := tk' }) :
  wpAny (model prg w) (ktrTop dp un gd cn cs L a ccd cl outer) (call (.ref (k_addr% "_law_vector")) [.ref src, .int 4 tm]) Q E s :=
  vec4 dp un gd cn cs a ccd cl outer A₀ base h₀ L m s Q E rest src x y tx ty n tm B F X (fun p hp => N p (wo.sub p hp)) T hk hne hp hd hu ret
theorem vecAt6 {w : World} {p : Program} {loose : List Str} {mean : ExcName → Option Value} {mg mb : Str → Option Value}
  {dp un : Nat} {gd : Option (List Code)} {cn : Str} {cs : Scope} {a : Addr} {ccd : Value} {cl : List (Str × Addr)} {outer : List Env} {A₀ : Around} {base h₀ : Heap} {L : Addr} {m : Str → Option Value} {s : Shared} {Q E : Value → Shared → Prop}
  {src : Addr} {x y : Int} {tx ty : Tok} {n : Nat} {tm : Tok} {all rest : Led}
  (F : Fr h₀ L s.heap m) (B : Below A₀ base outer h₀) (X : (KH w.params).In h₀) (N : News h₀ L s.heap all) (wo : Without src (pool x y tx ty n) all rest) (hne : ∀ p ∈ rest, p.1 ≠ src)
  (T : Top p loose mean mg mb h₀) (hk : cs.kind = .function) (hp : 0 ≤ x ∧ 0 ≤ y ∧ y < 2147483647) (hd : dp + 30 < recursionLimit) (hu : un + 300 < cLine)
  (ret : ∀ (V z f b p : Addr) (c e z0 z1 f0 f1 b0 b1 p0 p1 : Int) (tc te t10 t11 t40 t41 t20 t21 t30 t31 : Tok) (x' y' : Int) (tx' ty' : Tok) (h' : Heap) (tk' : Nat), Fr h₀ L h' m → News h₀ L h' ((src, pool x' y' tx' ty' n) :: (V, tupO [.ref z, .int e te, .ref f, .int c tc, .ref b, .ref p]) :: (z, tupO [.int z0 t10, .int z1 t11]) :: (f, tupO [.int f0 t40, .int f1 t41]) :: (b, tupO [.int b0 t20, .int b1 t21]) :: (p, tupO [.int p0 t30, .int p1 t31]) :: rest) → 0 ≤ x' ∧ 0 ≤ y' ∧ y' < 2147483647 → (∀ q9 ∈ (V, tupO [.ref z, .int e te, .ref f, .int c tc, .ref b, .ref p]) :: (z, tupO [.int z0 t10, .int z1 t11]) :: (f, tupO [.int f0 t40, .int f1 t41]) :: (b, tupO [.int b0 t20, .int b1 t21]) :: (p, tupO [.int p0 t30, .int p1 t31]) :: rest, q9.1 ≠ src) → Q (.ref V) { s with heap := h', toks := tk' }) :
  wpAny (model prg w) (ktrTop dp un gd cn cs L a ccd cl outer) (call (.ref (k_addr% "_law_vector")) [.ref src, .int 6 tm]) Q E s :=
  vec6 dp un gd cn cs a ccd cl outer A₀ base h₀ L m s Q E rest src x y tx ty n tm B F X (fun p hp => N p (wo.sub p hp)) T hk hne hp hd hu ret
structure Mark4 : Prop
structure Mark6 : Prop
theorem one_46 {w : World} {p : Program} {loose : List Str} {mean : ExcName → Option Value} {mg mb : Str → Option Value}
  {dp un : Nat} {gd : Option (List Code)} {cn : Str} {cs : Scope} {a : Addr} {ccd : Value} {cl : List (Str × Addr)} {outer : List Env} {A₀ : Around} {base h₀ : Heap} {L : Addr} {m : Str → Option Value} {s : Shared} {Q E : Value → Shared → Prop}
  {src th : Addr} {x y : Int} {tx ty t4 t6 : Tok} {n n1 : Nat} {all rest r' : Led}
  (F : Fr h₀ L s.heap m) (B : Below A₀ base outer h₀) (X : (KH w.params).In h₀) (N : News h₀ L s.heap all) (wo : Without src (pool x y tx ty n) all rest) (hm : Without th (listOf #[.int 4 t4, .int 6 t6] n1) rest r') (hne : ∀ p ∈ rest, p.1 ≠ src)
  (T : Top p loose mean mg mb h₀) (hk : cs.kind = .function) (hp : 0 ≤ x ∧ 0 ≤ y ∧ y < 2147483647)
  (hd : dp + 10 < recursionLimit) (hu : un + 100 < cLine)
  (r4 : Mark4 → ∀ (t : Tok) (x' y' : Int) (tx' ty' : Tok) (h' : Heap) (tk' : Nat), Fr h₀ L h' m → News h₀ L h' ((src, pool x' y' tx' ty' n) :: r') → 0 ≤ x' ∧ 0 ≤ y' ∧ y' < 2147483647 → (∀ p ∈ r', p.1 ≠ src) → Q (.int 4 t) { s with heap := h', toks := tk' })
  (r6 : Mark6 → ∀ (t : Tok) (x' y' : Int) (tx' ty' : Tok) (h' : Heap) (tk' : Nat), Fr h₀ L h' m → News h₀ L h' ((src, pool x' y' tx' ty' n) :: r') → 0 ≤ x' ∧ 0 ≤ y' ∧ y' < 2147483647 → (∀ p ∈ r', p.1 ≠ src) → Q (.int 6 t) { s with heap := h', toks := tk' }) :
  wpAny (model prg w) (ktrTop dp un gd cn cs L a ccd cl outer) (call (.ref (k_addr% "_law_one")) [.ref src, .ref th]) Q E s :=
  one_spec dp un gd cn cs a ccd cl outer A₀ base h₀ L m s Q E rest src th x y tx ty n n1 [.int 4 t4, .int 6 t6] B F X (fun p hp => N p (wo.sub p hp)) T hk (mem_pick hm) hne hp (by simp) (by simp) hd hu (fun v x' y' tx' ty' h' tk' hv F' N' P' => by
    have N2 : News h₀ L h' ((src, pool x' y' tx' ty' n) :: r') := fun q hq => N' q (by rcases List.mem_cons.mp hq with rfl | hq; exact .head _; exact .tail _ (hm.sub q (.tail _ hq)))
    have ne : ∀ p ∈ r', p.1 ≠ src := fun p hp => hne p (hm.sub p (.tail _ hp))
    simp only [List.mem_cons, List.not_mem_nil, or_false] at hv
    rcases hv with rfl | rfl
    · exact r4 ⟨⟩ _ _ _ _ _ _ _ F' N2 P' ne
    · exact r6 ⟨⟩ _ _ _ _ _ _ _ F' N2 P' ne)
end
section
set_option maxHeartbeats 2000000
section cut
open PySem PySem.Builtin.Slice
section
variable {prog : Program} {w : World} {A : Around} {E : Value → Shared → Prop} {s : Shared} {h₀ : Heap} {L : Addr} {m : Str → Option Value} {news : Led} {vl vu : Value} {lo hi : Option Int}
theorem part_ix {v : Value} {o : Option Int} {Q : Option Int → Shared → Prop} (p : IsPart v o) (h : Q o s) : wpAny (model prog w) A (slicePartIndex v) Q E s := by
  cases p with
  | none => exact slicePart_none h
  | int => exact slicePart_int h
theorem cut_applied {sl : Addr} {n a b : Nat} {Q : Int × Int × Nat → Shared → Prop} (hs : s.heap.IsSliceOf sl vl vu .none) (pl : IsPart vl lo) (pu : IsPart vu hi) (ha : sliceAdjust lo hi 1 (n : Int) = ((a : Int), (b : Int))) (hab : a ≤ b) (h : Q ((a : Int), 1, b - a) s) :
    wpAny (model prog w) A (sliceApplied (.ref sl) (pure (n : Int))) Q E s := by
  obtain ⟨os, hos, hcs, hds⟩ := id hs
  unfold sliceApplied sliceFields
  refine wpAny_bind (wpAny_bind (wpAny_field hos hds (x := vl) rfl (wpAny_bind (wpAny_field hos hds (x := vu) rfl (wpAny_bind (wpAny_field hos hds (x := .none) rfl (wpAny_pure ?_)))))))
  refine wpAny_bind (slicePart_none ?_)
  show wpAny _ _ (if ((1 : Int) == 0) = true then _ else _) _ _ s
  rw [if_neg (by decide)]
  refine wpAny_bind (part_ix pl (wpAny_bind (part_ix pu (wpAny_bind (wpAny_pure ?_)))))
  show wpAny _ _ (match sliceAdjust lo hi 1 (n : Int) with | (lo, hi) => pure (lo, (1 : Int), slicePlaces lo hi 1)) _ _ s
  rw [ha]
  show wpAny _ _ (pure ((a : Int), (1 : Int), slicePlaces (a : Int) (b : Int) 1)) _ _ s
  have e : slicePlaces (a : Int) (b : Int) 1 = b - a := by
    unfold slicePlaces
    simp only [show (1 : Int) > 0 from by decide, if_true, Int.ediv_one]
    split <;> omega
  rw [e]
  exact wpAny_pure h
theorem cut_pick (xs : Array Value) (a n : Nat) : ((List.range n).filterMap fun (k : Nat) => xs[((a : Int) + (k : Int) * 1).toNat]?) = (xs.toList.drop a).take n := by
  have e : (fun (k : Nat) => xs[((a : Int) + (k : Int) * 1).toNat]?) = fun k => xs[a + k]? := by
    funext k
    rw [Int.mul_one]; rfl
  rw [e]
  have := pick_run xs a n
  rw [List.filterMap_map] at this
  exact this
theorem cut_item {t sl : Addr} {items : Array Value} {a b : Nat} {zs : List Value} {Q : Value → Shared → Prop} (ht : IsTup s.heap t items) (hs : s.heap.IsSliceOf sl vl vu .none) (pl : IsPart vl lo) (pu : IsPart vu hi) (ha : sliceAdjust lo hi 1 (items.size : Int) = ((a : Int), (b : Int))) (hab : a ≤ b)
    (hb : b ≤ items.size) (hnw : ¬ (a = 0 ∧ b = items.size)) (hz : (items.toList.drop a).take (b - a) = zs) (hsz : items.size ≤ sizeLine)
    (h : Q (.ref s.heap.objs.size) { s with heap := s.heap.push { cls := .type "tuple", data := .seq zs.toArray } }) : wpAny (model prog w) A (getItem (.ref t) (.ref sl)) Q E s := (by exact use_of : Use _ (by
 first
 | (
  subst hz
  have hdrop : sizeOk (.seq ((items.toList.drop a).take (b - a)).toArray) := by
    show ((items.toList.drop a).take (b - a)).toArray.size ≤ sizeLine
    rw [List.size_toArray, List.length_take, List.length_drop, Array.length_toList]
    omega
  obtain ⟨os, hos, hcs, hds⟩ := id hs
  have hTs : s.TypeIs (.ref sl) "slice" := ⟨os, hos, hcs⟩
  unfold getItem
  try with_reducible refine wpAny_holding ?_
  first | refine wpAny_bind (wpAny_pure ?_) | skip
  refine wpAny_bind (wpAny_sequenceKey ht.typeIs (by decide) ?_)
  refine wpAny_bind (wpAny_callSpecial?_slot (name := Str.ofString "__getitem__") ht.typeIs slot_tuple_getitem (wpAny_call_entry slot_tuple_getitem ht.typeIs entry_tuple_getitem ?_ (args_tuple_getitem _ _)))
  show wpAny _ _ (Builtin.Tuple.tupleItemsOf (.ref t) >>= _) _ _ s
  refine wpAny_bind (tupleItemsOf_ ht (wpAny_bind (wpAny_typeOf hTs ?_)))
  rw [if_pos (by decide)]
  refine wpAny_bind (cut_applied hs pl pu ha hab ?_)
  have hno : ¬ (((a : Int) == 0 && (1 : Int) == 1 && (b - a) == items.size) = true) := by
    simp only [Bool.and_eq_true, beq_iff_eq]
    omega
  show wpAny _ _ (if ((a : Int) == 0 && (1 : Int) == 1 && (b - a) == items.size) = true then _ else _) _ _ s
  rw [if_neg hno, cut_pick items a (b - a)]
  first
    | exact wpAny_bind (m := Builtin.Tuple.tupleExact _) (wpAny_newObj_type (wpAny_pure ⟨_, rfl, wpAny_pure h⟩) hdrop)
    | exact wpAny_bind (m := Builtin.Tuple.tupleExact _) (wpAny_newObj_type (wpAny_bind (wpAny_pure (wpAny_pure ⟨_, rfl, wpAny_pure h⟩))) hdrop)
    | exact wpAny_bind (wpAny_bind (m := Builtin.Tuple.tupleExact _) (wpAny_newObj_type (wpAny_pure (wpAny_pure ⟨_, rfl, wpAny_pure h⟩)) hdrop))
    | exact wpAny_bind (wpAny_bind (m := Builtin.Tuple.tupleExact _) (wpAny_newObj_type (wpAny_pure ⟨_, rfl, wpAny_pure h⟩) hdrop)))
 | fail))
theorem tup_cut {value slice : PySem.Expr} {t : Addr} {its zs : List Value} {Q : Value → Shared → Prop} (a b : Nat) (F : Fr h₀ L s.heap m) (N : News h₀ L s.heap news) (hm : (t, tupO its) ∈ news) (pl : IsPart vl lo) (pu : IsPart vu hi)
    (ha : sliceAdjust lo hi 1 (its.length : Int) = ((a : Int), (b : Int))) (hab : a ≤ b) (hb : b ≤ its.length) (hnw : ¬ (a = 0 ∧ b = its.length)) (hz : (its.drop a).take (b - a) = zs) (hsz : its.length ≤ 1000)
    (h : ∀ D h', Fr h₀ L h' m → News h₀ L h' ((D, tupO zs) :: news) → (∀ p ∈ news, p.1 < D) → Q (.ref D) { s with heap := h' })
    (hs : subscripted slice false (.ref t) (.ref s.heap.objs.size) = operate [.ref s.heap.objs.size, .ref t] (getItem (.ref t) (.ref s.heap.objs.size)) := by with_unfolding_all rfl)
    (hg : ∀ r, letTemporaryGo value (.ref t) r = pure () := by intro _; with_unfolding_all rfl) :
    wpAny (model prog w) A (subscriptTail value slice (.ref t) (.ref s.heap.objs.size)) Q E { s with heap := s.heap.push { cls := .type "slice", data := .fields #[vl, vu, .none] } } := (by exact use_of : Use _ (by
 first
 | (
  have ht : IsTup s.heap t its.toArray := ⟨_, (N _ hm).1, rfl, _, rfl⟩
  have ht' : IsTup (s.heap.push { cls := .type "slice", data := .fields #[vl, vu, .none] }) t its.toArray := ht.keeps fun _ _ e => Heap.get?_push_of_some _ e
  refine subscriptTail_ops (s := { s with heap := s.heap.push { cls := .type "slice", data := .fields #[vl, vu, .none] } }) ht'.typeIs slot_tuple_getitem.lookup
    (cut_item (a := a) (b := b) ht' (Heap.IsSliceOf.new ..) pl pu (by simpa using ha) hab (by simpa using hb) (by simpa using hnw) (by simpa using hz) (by rw [sizeLine_eq, List.size_toArray]; omega) ?_) hs hg
  have N1 := News.push (F.push { cls := .type "slice", data := .fields #[vl, vu, .none] }) (N.grown fun _ _ e => Heap.get?_push_of_some _ e) { cls := .type "tuple", data := .seq zs.toArray }
  refine h _ _ ((F.push _).push _) N1 fun p hp => ?_
  rw [Heap.size_push]
  exact Nat.lt_succ_of_lt (Heap.lt_size (N p hp).1))
 | fail))
end
end cut
end
section
set_option maxHeartbeats 2000000
section lt
open PySem AutoSeq1 PySem.SeqAt
/-- less-than of two values, whatever is asked of it -/
def LtAt (A : Around) (s : Shared) (a b : Value) (k : Bool) : Prop := ∀ (prog : Program) (w : World) (E Q : Value → Shared → Prop), Q (.bool k) s → wpAny (model prog w) A (richCompare .Lt a b) Q E s
def lexLt (e lt : Nat → Bool) (d : Bool) : List Nat → Bool
  | [] => d
  | i :: r => if e i = true then lexLt e lt d r else lt i
theorem tuple_ltAt (l b : Addr) (items items2 : Array Value) (n n2 : Nat) (dd dd2 : Option Addr) (sl sl2 : Array (Option Value)) (e lt : Nat → Bool) :
    Meets (Builtin.«tuple.__lt__» ⟨[.ref l, .ref b], []⟩)
      (fun A R s => s.heap.get? l = some { cls := .type "tuple", dict := dd, data := .seq items n, slots := sl } ∧ s.heap.get? b = some { cls := .type "tuple", dict := dd2, data := .seq items2 n2, slots := sl2 } ∧
        (∀ j (h1 : j < items.size) (h2 : j < items2.size), EqAt A.in1 s items[j] items2[j] (e j)) ∧ (∀ j (h1 : j < items.size) (h2 : j < items2.size), e j = false → LtAt A.in1 s items[j] items2[j] (lt j)) ∧
        R (.ok (.ret (.bool (lexLt e lt (decide (items.size < items2.size)) (List.range (min items.size items2.size)))))) s) :=
  .of_wp fun prog w A R s h => by
    obtain ⟨hp, g, d, tk, os⟩ := s
    obtain ⟨hl, hb, he, hlt, h⟩ := h
    have f2 := AutoSeq1.sub_tuple_tuple
    have hZ : (items.toList.zip items2.toList).length = min items.size items2.size := by simp
    wp_walk using wpAny_loadPart' hl, wpAny_loadPart' hb, wpAny_forIn_list _ (fun rest b s' => b.1 = none ∧ s' = ⟨hp, g, d, tk, os⟩ ∧ ∃ i, rest = (items.toList.zip items2.toList).drop i ∧
      R (.ok (.ret (.bool (lexLt e lt (decide (items.size < items2.size)) ((List.range (min items.size items2.size)).drop i))))) ⟨hp, g, d, tk, os⟩) _
    case turn =>
      rintro ⟨y, x⟩ rest b s' ⟨hb', rfl, i, hz, hR⟩
      have hi : i < (items.toList.zip items2.toList).length := by
        rcases Nat.lt_or_ge i (items.toList.zip items2.toList).length with h' | h'
        · exact h'
        · rw [List.drop_of_length_le h'] at hz; cases hz
      have hm : i < min items.size items2.size := hZ ▸ hi
      have h1 : i < items.size := Nat.lt_of_lt_of_le hm (Nat.min_le_left _ _)
      have h2 : i < items2.size := Nat.lt_of_lt_of_le hm (Nat.min_le_right _ _)
      rw [List.drop_eq_getElem_cons hi] at hz
      injection hz with hyx hrest
      obtain rfl : y = items[i] := by have := congrArg Prod.fst hyx; simpa using this
      obtain rfl : x = items2[i] := by have := congrArg Prod.snd hyx; simpa using this
      rw [show (List.range (min items.size items2.size)).drop i = i :: (List.range (min items.size items2.size)).drop (i + 1) by simp [List.drop_eq_getElem_cons, hm]] at hR
      unfold lexLt at hR
      refine wpAny_bind (he i h1 h2 prog w _ _ ?_)
      cases hy : e i with
      | true =>
        rw [hy, if_pos rfl] at hR
        wp_walk
        exact ⟨rfl, rfl, i + 1, hrest, hR⟩
      | false =>
        rw [hy, if_neg (by decide)] at hR
        simp only [Bool.not_false, if_true]
        refine wpAny_bind (wpAny_rule ?_)
        refine wpAny_bind (hlt i h1 h2 hy prog w _ _ ?_)
        wp_walk
        exact ⟨_, rfl, hR⟩
    case fin =>
      rintro ⟨b1, b2⟩ s' ⟨hb', rfl, i, hz, hR⟩
      simp only at hb'
      subst hb'
      have hge : min items.size items2.size ≤ i := by
        rcases Nat.lt_or_ge i (items.toList.zip items2.toList).length with h' | h'
        · rw [List.drop_eq_getElem_cons h'] at hz; cases hz
        · exact hZ ▸ h'
      rw [List.drop_of_length_le (by simpa using hge)] at hR
      wp_walk
      exact ⟨_, rfl, by simpa [Builtin.Tuple.tupleCompareSizes, lexLt] using hR⟩
    case h =>
      exact ⟨rfl, rfl, 0, rfl, by simpa using h⟩
section
variable {A : Around} {s : Shared}
theorem LtAt.int (a b : Int) (t u : Tok) : LtAt A s (.int a t) (.int b u) (decide (a < b)) := fun _ _ _ _ h => lt_int h
theorem LtAt.tuples {l b : Addr} {items items2 : Array Value} {e lt : Nat → Bool} (hl : s.heap.IsTuple l items) (hb : s.heap.IsTuple b items2) (hu : A.units < cLine)
    (he : ∀ j (h1 : j < items.size) (h2 : j < items2.size), EqAt A.in1 s items[j] items2[j] (e j)) (hlt : ∀ j (h1 : j < items.size) (h2 : j < items2.size), e j = false → LtAt A.in1 s items[j] items2[j] (lt j)) :
    LtAt A s (.ref l) (.ref b) (lexLt e lt (decide (items.size < items2.size)) (List.range (min items.size items2.size))) := fun prog w E Q h => by
  obtain ⟨⟨cls, dd, data, sl⟩, ho, hc, n, hd⟩ := id hl
  obtain ⟨⟨cls2, dd2, data2, sl2⟩, ho2, hc2, n2, hd2⟩ := id hb
  simp only at hc hd hc2 hd2
  subst hc hd hc2 hd2
  exact richCompare_meets_room (op := .Lt) ⟨_, ho, rfl⟩ ⟨_, ho2, rfl⟩ F.slot_tuple_lt F.entry_tuple_lt (F.args_tuple_lt_2 _ _) (tuple_ltAt l b items items2 n n2 dd dd2 sl sl2 e lt) ⟨ho, ho2, he, hlt, (fun x => nomatch x), h⟩ hu
/-- a vector's item: an int, or two of them -/
def VItem (h : Heap) (v : Value) (ks : List Int) : Prop := (∃ a t, v = .int a t ∧ ks = [a]) ∨ ∃ x a b t u, v = .ref x ∧ h.IsTuple x #[.int a t, .int b u] ∧ ks = [a, b]
def ltI : List Int → List Int → Bool
  | [a], [b] => decide (a < b)
  | [a, b], [c, d] => lexLt (fun j => if j = 0 then a == c else b == d) (fun j => if j = 0 then decide (a < c) else decide (b < d)) false [0, 1]
  | _, _ => false
theorem two {P : Nat → Prop} (h0 : P 0) (h1 : P 1) : ∀ j, j < 2 → P j := fun j hj => by
  match j, hj with
  | 0, _ => exact h0
  | 1, _ => exact h1
theorem VItem.eq {v v' : Value} {ks ks' : List Int} (h : VItem s.heap v ks) (h' : VItem s.heap v' ks') (hl : ks.length = ks'.length) (hu : A.units < cLine) : EqAt A s v v' (decide (ks = ks')) := by
  rcases h with ⟨a, t, rfl, rfl⟩ | ⟨x, a, b, t, u, rfl, hx, rfl⟩ <;> rcases h' with ⟨a', t', rfl, rfl⟩ | ⟨x', a', b', t', u', rfl, hx', rfl⟩
  · have := MeetsSeq.EqGives.int a a' t t'
    rw [show decide ([a] = [a']) = (a == a') by by_cases q : a = a' <;> simp [q]]
    exact this.at A s
  · cases hl
  · cases hl
  · by_cases q : x = x'
    · subst q
      obtain ⟨o, ho, _, n, hd⟩ := hx
      obtain ⟨o', ho', _, n', hd'⟩ := hx'
      rw [ho] at ho'; cases ho'
      rw [hd] at hd'; cases hd'
      simp only [decide_true]
      exact EqAt.same _
    · have := RcAt.tuples (A := A) (e := fun j => if j = 0 then a == a' else b == b') hx hx' hu (fun j h1 h2 => by
        have hj : j < 2 := h1
        match j, hj with
        | 0, _ => exact (MeetsSeq.EqGives.int a a' t t').at A.in1 s
        | 1, _ => exact (MeetsSeq.EqGives.int b b' u u').at A.in1 s)
      refine EqAt.of_refs q ?_
      rw [show decide ([a, b] = [a', b']) = ((List.range (min 2 2)).all (fun j => if j = 0 then a == a' else b == b') && (2 == 2)) by
        by_cases q1 : a = a' <;> by_cases q2 : b = b' <;> simp [q1, q2, List.range, List.range.loop]]
      exact this
theorem VItem.lt {v v' : Value} {ks ks' : List Int} (h : VItem s.heap v ks) (h' : VItem s.heap v' ks') (hl : ks.length = ks'.length) (hu : A.units < cLine) : LtAt A s v v' (ltI ks ks') := by
  rcases h with ⟨a, t, rfl, rfl⟩ | ⟨x, a, b, t, u, rfl, hx, rfl⟩ <;> rcases h' with ⟨a', t', rfl, rfl⟩ | ⟨x', a', b', t', u', rfl, hx', rfl⟩
  · exact LtAt.int a a' t t'
  · cases hl
  · cases hl
  · exact LtAt.tuples (A := A) (e := fun j => if j = 0 then a == a' else b == b') (lt := fun j => if j = 0 then decide (a < a') else decide (b < b')) hx hx' hu
      (fun j h1 h2 => by
        have hj : j < 2 := h1
        match j, hj with
        | 0, _ => exact (MeetsSeq.EqGives.int a a' t t').at A.in1 s
        | 1, _ => exact (MeetsSeq.EqGives.int b b' u u').at A.in1 s)
      (fun j h1 h2 _ => by
        have hj : j < 2 := h1
        match j, hj with
        | 0, _ => exact LtAt.int a a' t t'
        | 1, _ => exact LtAt.int b b' u u')
/-- a vector -/
def IsVec (h : Heap) (V : Addr) (p : List (List Int)) : Prop := ∃ items : Array Value, h.IsTuple V items ∧ items.size = p.length ∧ ∀ j (h1 : j < items.size) (h2 : j < p.length), VItem h items[j] p[j]
def eqV (p q : List (List Int)) : Bool := (List.range (min p.length q.length)).all (fun j => decide (p[j]? = q[j]?)) && p.length == q.length
def ltV (p q : List (List Int)) : Bool := lexLt (fun j => decide (p[j]? = q[j]?)) (fun j => ltI (p.getD j []) (q.getD j [])) (decide (p.length < q.length)) (List.range (min p.length q.length))
def SameKinds (p q : List (List Int)) : Prop := ∀ j (h1 : j < p.length) (h2 : j < q.length), p[j].length = q[j].length
theorem IsVec.items {V W : Addr} {p q : List (List Int)} (h : IsVec s.heap V p) (h' : IsVec s.heap W q) (hk : SameKinds p q) (hu : A.units + 64 < cLine) :
    ∃ items items2 : Array Value, s.heap.IsTuple V items ∧ s.heap.IsTuple W items2 ∧ items.size = p.length ∧ items2.size = q.length ∧
      (∀ j (h1 : j < items.size) (h2 : j < items2.size), EqAt A.in1 s items[j] items2[j] (decide (p[j]? = q[j]?))) ∧ (∀ j (h1 : j < items.size) (h2 : j < items2.size), LtAt A.in1 s items[j] items2[j] (ltI (p.getD j []) (q.getD j []))) := by
  obtain ⟨i1, t1, z1, v1⟩ := h
  obtain ⟨i2, t2, z2, v2⟩ := h'
  have hu' : A.in1.units < cLine := by have := units_in1 (A := A); omega
  refine ⟨i1, i2, t1, t2, z1, z2, fun j h1 h2 => ?_, fun j h1 h2 => ?_⟩
  · have a := v1 j h1 (z1 ▸ h1)
    have b := v2 j h2 (z2 ▸ h2)
    have := VItem.eq (A := A.in1) a b (hk j _ _) hu'
    rw [List.getElem?_eq_getElem (z1 ▸ h1), List.getElem?_eq_getElem (z2 ▸ h2)]
    simpa using this
  · have a := v1 j h1 (z1 ▸ h1)
    have b := v2 j h2 (z2 ▸ h2)
    have := VItem.lt (A := A.in1) a b (hk j _ _) hu'
    rw [List.getD_eq_getElem?_getD, List.getD_eq_getElem?_getD, List.getElem?_eq_getElem (z1 ▸ h1), List.getElem?_eq_getElem (z2 ▸ h2)]
    exact this
variable {prog : Program} {w : World} {E Q : Value → Shared → Prop} {V W : Addr} {p q : List (List Int)}
theorem lt_vec (h : IsVec s.heap V p) (h' : IsVec s.heap W q) (hk : SameKinds p q) (hu : A.units + 64 < cLine) (k : Q (.bool (ltV p q)) s) : wpAny (model prog w) A (compareOp .Lt (.ref V) (.ref W)) Q E s := by
  obtain ⟨i1, i2, t1, t2, z1, z2, e, l⟩ := h.items h' hk hu
  refine LtAt.tuples t1 t2 (by omega) e (fun j h1 h2 _ => l j h1 h2) prog w E Q ?_
  rw [z1, z2]; exact k
theorem eq_vec (h : IsVec s.heap V p) (h' : IsVec s.heap W q) (hk : SameKinds p q) (hu : A.units + 64 < cLine) (k : Q (.bool (eqV p q)) s) : wpAny (model prog w) A (compareOp .Eq (.ref V) (.ref W)) Q E s := by
  obtain ⟨i1, i2, t1, t2, z1, z2, e, l⟩ := h.items h' hk hu
  refine eq_tupleAt t1 t2 (by omega) e ?_
  rw [z1, z2]; exact k
end
end lt
end
section
set_option maxHeartbeats 2000000
section ne
open PySem AutoSeq1 PySem.SeqAt
theorem tuple_neAt (l b : Addr) (items items2 : Array Value) (n n2 : Nat) (dd dd2 : Option Addr) (sl sl2 : Array (Option Value)) (e : Nat → Bool) :
    Meets (Builtin.«tuple.__ne__» ⟨[.ref l, .ref b], []⟩)
      (fun A R s => s.heap.get? l = some { cls := .type "tuple", dict := dd, data := .seq items n, slots := sl } ∧ s.heap.get? b = some { cls := .type "tuple", dict := dd2, data := .seq items2 n2, slots := sl2 } ∧
        (∀ j (h1 : j < items.size) (h2 : j < items2.size), EqAt A.in1 s items[j] items2[j] (e j)) ∧
        R (.ok (.ret (.bool (!((List.range (min items.size items2.size)).all e && items.size == items2.size))))) s) :=
  .of_wp fun prog w A R s h => by
    obtain ⟨hp, g, d, tk, os⟩ := s
    obtain ⟨hl, hb, he, h⟩ := h
    have f2 := AutoSeq1.sub_tuple_tuple
    have hZ : (items.toList.zip items2.toList).length = min items.size items2.size := by simp
    wp_walk using wpAny_loadPart' hl, wpAny_loadPart' hb, wpAny_forIn_list _ (fun rest b s' => b.1 = none ∧ s' = ⟨hp, g, d, tk, os⟩ ∧ ∃ i, rest = (items.toList.zip items2.toList).drop i ∧
      R (.ok (.ret (.bool (!(((List.range (min items.size items2.size)).drop i).all e && items.size == items2.size))))) ⟨hp, g, d, tk, os⟩) _
    case turn =>
      rintro ⟨y, x⟩ rest b s' ⟨hb', rfl, i, hz, hR⟩
      have hi : i < (items.toList.zip items2.toList).length := by
        rcases Nat.lt_or_ge i (items.toList.zip items2.toList).length with h' | h'
        · exact h'
        · rw [List.drop_of_length_le h'] at hz; cases hz
      have hm : i < min items.size items2.size := hZ ▸ hi
      have h1 : i < items.size := Nat.lt_of_lt_of_le hm (Nat.min_le_left _ _)
      have h2 : i < items2.size := Nat.lt_of_lt_of_le hm (Nat.min_le_right _ _)
      rw [List.drop_eq_getElem_cons hi] at hz
      injection hz with hyx hrest
      obtain rfl : y = items[i] := by have := congrArg Prod.fst hyx; simpa using this
      obtain rfl : x = items2[i] := by have := congrArg Prod.snd hyx; simpa using this
      rw [show (List.range (min items.size items2.size)).drop i = i :: (List.range (min items.size items2.size)).drop (i + 1) by simp [List.drop_eq_getElem_cons, hm], List.all_cons] at hR
      refine wpAny_bind (he i h1 h2 prog w _ _ ?_)
      cases hy : e i with
      | true =>
        rw [hy] at hR
        wp_walk
        exact ⟨rfl, rfl, i + 1, hrest, by simpa using hR⟩
      | false =>
        rw [hy] at hR
        wp_walk
        exact ⟨_, rfl, by simpa using hR⟩
    case fin =>
      rintro ⟨b1, b2⟩ s' ⟨hb', rfl, i, hz, hR⟩
      simp only at hb'
      subst hb'
      have hge : min items.size items2.size ≤ i := by
        rcases Nat.lt_or_ge i (items.toList.zip items2.toList).length with h' | h'
        · rw [List.drop_eq_getElem_cons h'] at hz; cases hz
        · exact hZ ▸ h'
      rw [List.drop_of_length_le (by simpa using hge)] at hR
      wp_walk
      exact ⟨_, rfl, by simpa [Builtin.Tuple.tupleCompareSizes, bne] using hR⟩
    case h =>
      exact ⟨rfl, rfl, 0, rfl, by simpa using h⟩
theorem ne_vec {prog : Program} {w : World} {A : Around} {s : Shared} {E Q : Value → Shared → Prop} {V W : Addr} {p q : List (List Int)} (h : IsVec s.heap V p) (h' : IsVec s.heap W q) (hk : SameKinds p q) (hu : A.units + 64 < cLine) (k : Q (.bool (!(eqV p q))) s) :
    wpAny (model prog w) A (compareOp .NotEq (.ref V) (.ref W)) Q E s := by
  obtain ⟨i1, i2, hl, hb, z1, z2, e, l⟩ := h.items h' hk hu
  obtain ⟨⟨cls, dd, data, sl⟩, ho, hc, n, hd⟩ := id hl
  obtain ⟨⟨cls2, dd2, data2, sl2⟩, ho2, hc2, n2, hd2⟩ := id hb
  simp only at hc hd hc2 hd2
  subst hc hd hc2 hd2
  refine richCompare_meets_room (op := .NotEq) ⟨_, ho, rfl⟩ ⟨_, ho2, rfl⟩ F.slot_tuple_ne F.entry_tuple_ne (F.args_tuple_ne_2 _ _) (tuple_neAt V W i1 i2 n n2 dd dd2 sl sl2 _) ⟨ho, ho2, e, (fun x => nomatch x), ?_⟩ (by omega)
  rw [z1, z2]; exact k
end ne
end
section
set_option maxHeartbeats 2000000
section isvec
open PySem
inductive VI (news : Led) : List Value → List (List Int) → Prop
  | nil : VI news [] []
  | int {a : Int} {t : Tok} {vs : List Value} {p : List (List Int)} : VI news vs p → VI news (.int a t :: vs) ([a] :: p)
  | tup {x : Addr} {a b : Int} {t u : Tok} {vs : List Value} {p : List (List Int)} {r : Led} : Without x (tupO [.int a t, .int b u]) news r → VI news vs p → VI news (.ref x :: vs) ([a, b] :: p)
theorem VI.len {news : Led} {vs : List Value} {p : List (List Int)} (h : VI news vs p) : vs.length = p.length := by
  induction h with
  | nil => rfl
  | int _ ih => simp [ih]
  | tup _ _ ih => simp [ih]
theorem VI.at {h₀ h : Heap} {L : Addr} {news : Led} {vs : List Value} {p : List (List Int)} (N : News h₀ L h news) (v : VI news vs p) : ∀ j (h1 : j < vs.length) (h2 : j < p.length), VItem h vs[j] p[j] := by
  induction v with
  | nil => intro j h1; exact absurd h1 (Nat.not_lt_zero _)
  | int _ ih =>
    intro j h1 h2
    cases j with
    | zero => exact .inl ⟨_, _, rfl, rfl⟩
    | succ j => exact ih j (by simpa using h1) (by simpa using h2)
  | tup w _ ih =>
    intro j h1 h2
    cases j with
    | zero => exact .inr ⟨_, _, _, _, _, rfl, ⟨_, (N _ (mem_pick w)).1, rfl, _, rfl⟩, rfl⟩
    | succ j => exact ih j (by simpa using h1) (by simpa using h2)
theorem isVec_of {h₀ h : Heap} {L V : Addr} {news r : Led} {vs : List Value} {p : List (List Int)} (N : News h₀ L h news) (w : Without V (tupO vs) news r) (vi : VI news vs p) : IsVec h V p :=
  ⟨vs.toArray, ⟨_, (N _ (mem_pick w)).1, rfl, _, rfl⟩, by simpa using vi.len, fun j h1 h2 => by simpa using vi.at N j (by simpa using h1) h2⟩
theorem kinds_of : ∀ {p q : List (List Int)}, p.map List.length = q.map List.length → SameKinds p q := fun {p q} h j h1 h2 => by
  have a : (p.map List.length)[j]? = some p[j].length := by rw [List.getElem?_map, List.getElem?_eq_getElem h1]; rfl
  have b : (q.map List.length)[j]? = some q[j].length := by rw [List.getElem?_map, List.getElem?_eq_getElem h2]; rfl
  rw [h, b] at a
  exact (Option.some.inj a).symm
theorem eqV_self (p : List (List Int)) : eqV p p = true := by
  unfold eqV
  simp
section
variable {prog : Program} {w : World} {A : Around} {s : Shared} {E Q : Value → Shared → Prop} {h₀ : Heap} {L V W : Addr} {news r1 r2 : Led} {vs us : List Value} {p q : List (List Int)}
def shape (vs : List Value) : List Bool := vs.map fun v => match v with | .ref _ => true | _ => false
theorem ne_self (sh : List Bool) (N : News h₀ L s.heap news) (w1 : Without V (tupO vs) news r1) (_s1 : shape vs = sh) (v1 : VI news vs p) (w2 : Without W (tupO us) news r2) (_s2 : shape us = sh) (v2 : VI news us p) (hu : A.units + 64 < cLine) (k : Q (.bool false) s) :
    wpAny (model prog w) A (compareOp .NotEq (.ref V) (.ref W)) Q E s := by
  refine ne_vec (isVec_of N w1 v1) (isVec_of N w2 v2) (kinds_of rfl) hu ?_
  rw [eqV_self]; exact k
theorem ne_made (sh : List Bool) (N : News h₀ L s.heap news) (w1 : Without V (tupO vs) news r1) (_s1 : shape vs = sh) (v1 : VI news vs p) (w2 : Without W (tupO us) news r2) (_s2 : shape us = sh) (v2 : VI news us q) (hk : p.map List.length = q.map List.length) (hu : A.units + 64 < cLine) (k : ∀ b, b = eqV p q → Q (.bool (!b)) s) :
    wpAny (model prog w) A (compareOp .NotEq (.ref V) (.ref W)) Q E s := ne_vec (isVec_of N w1 v1) (isVec_of N w2 v2) (kinds_of hk) hu (k _ rfl)
theorem lt_made (sh : List Bool) (N : News h₀ L s.heap news) (w1 : Without V (tupO vs) news r1) (_s1 : shape vs = sh) (v1 : VI news vs p) (w2 : Without W (tupO us) news r2) (_s2 : shape us = sh) (v2 : VI news us q) (hk : p.map List.length = q.map List.length) (hu : A.units + 64 < cLine) (k : ∀ b, b = ltV p q → Q (.bool b) s) :
    wpAny (model prog w) A (compareOp .Lt (.ref V) (.ref W)) Q E s := lt_vec (isVec_of N w1 v1) (isVec_of N w2 v2) (kinds_of hk) hu (k _ rfl)
end
end isvec
end
section
set_option maxHeartbeats 4000000
theorem wdsL115 : True := by
  k_with "my k_all" =>
    fail_if_success (k_extra "off L115")
    (first | (with_reducible assumption) | ((with_reducible show ∀ p ∈ (_ :: _), _); refine' List.forall_mem_cons.mpr ⟨?_, ?_⟩; (next => (dsimp only; first | (with_reducible assumption) | (with_reducible exact Ne.symm (by assumption)) | k_ne)); (next => k_all)) | exact lt_self (by assumption) | exact lt_up (by assumption) | assumption)
  k_with "subscriptTail Name Slice ref ref" =>
    fail_if_success (k_extra "off L115")
    ((k_here; (with_reducible show wpAny _ _ (subscriptTail _ (PySem.Expr.Slice _ _ none _) (Value.ref _) (Value.ref _)) _ _ _); k_dflt (first
      | (refine' tup_cut (s := ⟨_, _, _, _, _⟩) 0 2 ?z7839F ?z7839N ?z7839m ?z7839l ?z7839u ?z7839a ?z7839b ?z7839c ?z7839d ?z7839z ?z7839e ?_ ?z7839hs ?z7839ht; (case z7839F => k_asm); (case z7839N => k_asm); (case z7839m => k_mem); (case z7839l => constructor); (case z7839u => constructor); (case z7839a => rfl); (case z7839b => decide); (case z7839c => exact Nat.le_of_ble_eq_true rfl); (case z7839d => (simp only [List.length_cons, List.length_nil]; omega)); (case z7839z => rfl); (case z7839e => exact Nat.le_of_ble_eq_true rfl); (case z7839hs => with_unfolding_all rfl); (case z7839ht => intro _; with_unfolding_all rfl); intro D' h' F' N' l1; (try k_lt l1); (try dsimp only))
      | (refine' tup_cut (s := ⟨_, _, _, _, _⟩) 0 4 ?z7839F ?z7839N ?z7839m ?z7839l ?z7839u ?z7839a ?z7839b ?z7839c ?z7839d ?z7839z ?z7839e ?_ ?z7839hs ?z7839ht; (case z7839F => k_asm); (case z7839N => k_asm); (case z7839m => k_mem); (case z7839l => constructor); (case z7839u => constructor); (case z7839a => rfl); (case z7839b => decide); (case z7839c => exact Nat.le_of_ble_eq_true rfl); (case z7839d => (simp only [List.length_cons, List.length_nil]; omega)); (case z7839z => rfl); (case z7839e => exact Nat.le_of_ble_eq_true rfl); (case z7839hs => with_unfolding_all rfl); (case z7839ht => intro _; with_unfolding_all rfl); intro D' h' F' N' l1; (try k_lt l1); (try dsimp only))
      | (refine' tup_cut (s := ⟨_, _, _, _, _⟩) 2 4 ?z7839F ?z7839N ?z7839m ?z7839l ?z7839u ?z7839a ?z7839b ?z7839c ?z7839d ?z7839z ?z7839e ?_ ?z7839hs ?z7839ht; (case z7839F => k_asm); (case z7839N => k_asm); (case z7839m => k_mem); (case z7839l => constructor); (case z7839u => constructor); (case z7839a => rfl); (case z7839b => decide); (case z7839c => exact Nat.le_of_ble_eq_true rfl); (case z7839d => (simp only [List.length_cons, List.length_nil]; omega)); (case z7839z => rfl); (case z7839e => exact Nat.le_of_ble_eq_true rfl); (case z7839hs => with_unfolding_all rfl); (case z7839ht => intro _; with_unfolding_all rfl); intro D' h' F' N' l1; (try k_lt l1); (try dsimp only))
      | (refine' tup_cut (s := ⟨_, _, _, _, _⟩) 4 6 ?z7839F ?z7839N ?z7839m ?z7839l ?z7839u ?z7839a ?z7839b ?z7839c ?z7839d ?z7839z ?z7839e ?_ ?z7839hs ?z7839ht; (case z7839F => k_asm); (case z7839N => k_asm); (case z7839m => k_mem); (case z7839l => constructor); (case z7839u => constructor); (case z7839a => rfl); (case z7839b => decide); (case z7839c => exact Nat.le_of_ble_eq_true rfl); (case z7839d => (simp only [List.length_cons, List.length_nil]; omega)); (case z7839z => rfl); (case z7839e => exact Nat.le_of_ble_eq_true rfl); (case z7839hs => with_unfolding_all rfl); (case z7839ht => intro _; with_unfolding_all rfl); intro D' h' F' N' l1; (try k_lt l1); (try dsimp only)))))
  k_with "McL" =>
    fail_if_success (k_extra "off L115")
    (first | (with_reducible refine McL.done ?_) | ((first | (with_reducible show McL _ _ _ _ _ _ _ _ _ _ _ _ _ _ (_ :: _) _ _) | (fail_if_success (k_extra "mcl guard"))); with_unfolding_all first
      | (refine McL.turn ?_; intro I' oI' C' oC' D' m' h' tk' E' hC' hasg' F' N' off' ne'; (try dsimp only at hasg'); (first | (obtain ⟨t9', u9', ha9', hb9'⟩ := hasg') | (obtain ⟨t9', ha9'⟩ := hasg') | skip))
      | refine McL.done ?_))
  k_with "McD" =>
    fail_if_success (k_extra "off L115")
    (first | (with_reducible refine McD.done ?_) | (with_unfolding_all first
      | (refine McD.turn ?_; intro I' oI' C' oC' D' oD' m' h' tk' E' hC' hasg' F' N' off' ne'; (try dsimp only at hasg'); (first | (obtain ⟨t9', u9', ha9', hb9'⟩ := hasg') | (obtain ⟨t9', ha9'⟩ := hasg') | skip))
      | refine McD.done ?_))
  k_with "my k_lt" =>
    fail_if_success (k_extra "off L115")
    skip
  k_with "mem9" =>
    fail_if_success (k_extra "off L115")
    (first | ((with_reducible show Has _ (_ :: _)); first | exact Has.head | exact Has.tail (by k_extra "mem9")) | exact Has.of (by assumption))
  k_with "my k_ne" =>
    fail_if_success (k_extra "off L115")
    ((try dsimp only); first | assumption | exact Ne.symm (by assumption) | exact neP (by assumption) (by k_extra "mem9") | exact neQ (by assumption) (by k_extra "mem9"))
  trivial
theorem sp_yes {a b c d : Int} (h : a = b) : (c == d) = (decide (a = b) && decide (c = d)) := by subst h; by_cases q : c = d <;> simp [q]
theorem sp_no {a b c d : Int} (h : a ≠ b) : (a == b) = (decide (a = b) && decide (c = d)) := by simp [h]
theorem or_lt {b l e p : Bool} (h : b = l) (a : b = true) : b = (l || (!e && p)) := by subst h a; rfl
theorem or_eq {b l e c p : Bool} (hl : b = l) (al : b = false) (he : c = e) (ac : c = true) : (!c) = (l || (!e && p)) := by subst hl al he ac; rfl
theorem or_sp {b l e c v p : Bool} (hl : b = l) (al : b = false) (he : c = e) (ac : c = false) (hv : v = p) : v = (l || (!e && p)) := by subst hl al he ac hv; simp
theorem teller4_in {w : World} {p : Program} {loose : List Str} {mean : ExcName → Option Value} {mg mb : Str → Option Value}
  (κ : Cx) (A₀ : Around) (base h₀ : Heap) (m : Str → Option Value) (s : Shared) (Q E : Value → Shared → Prop)
  (led : Led) (V z b q : Addr) (c z0 z1 b0 b1 q0 q1 : Int) (tc tz0 tz1 tb0 tb1 tq0 tq1 : Tok) (b2 q2 : Addr)
  (B : Below A₀ base κ.outer h₀) (F : Fr h₀ κ.L s.heap m) (X : (KH w.params).In h₀) (N : News h₀ κ.L s.heap (led))
  (T : Top p loose mean mg mb h₀) (hk : κ.cs.kind = .function) (he1 : (V, tupO [.ref z, .int c tc, .ref b, .ref q]) ∈ led) (he2 : (z, tupO [.int z0 tz0, .int z1 tz1]) ∈ led) (he3 : (b, tupO [.int b0 tb0, .int b1 tb1]) ∈ led) (he4 : (q, tupO [.int q0 tq0, .int q1 tq1]) ∈ led)
  (hd : κ.dp + 20 < recursionLimit) (hu : κ.un + 200 < cLine)
  (ret : ∀ (D : Addr) (h' : Heap) (tk' : Nat), Fr h₀ κ.L h' m → News h₀ κ.L h' ((D, tupO [.ref z, .int c tc, .ref b2, .ref q2]) :: led) → Q (.ref D) { s with heap := h', toks := tk' }):
  wpAny (model prg w) (T1 κ) (call (.ref (k_addr% "with_teller")) [.ref V, .ref b2, .ref q2]) Q E s := (by exact use_of : Use _ (by
 first
 | (
  have N9 : News h₀ κ.L s.heap ((V, tupO [.ref z, .int c tc, .ref b, .ref q]) :: (z, tupO [.int z0 tz0, .int z1 tz1]) :: (b, tupO [.int b0 tb0, .int b1 tb1]) :: (q, tupO [.int q0 tq0, .int q1 tq1]) :: led) := by
    intro p9 hp9
    simp only [List.mem_cons] at hp9
    rcases hp9 with rfl | rfl | rfl | rfl | hp9
    · exact N _ he1
    · exact N _ he2
    · exact N _ he3
    · exact N _ he4
    · exact N _ hp9
  clear N
  refine wpAny_call ?_
  k_dflt k_enter
  k_steps
  all_goals (refine' ret _ _ _ ?f7 ?n7; (case f7 => k_asm); (case n7 => refine news_pick (by assumption) ?_; (repeat (first | exact Picks.self | (refine' Picks.cons ?w ?_; (case w => k_upd)) | refine' Picks.up ?_)))))
 | fail))


theorem teller4 {w : World} {p : Program} {loose : List Str} {mean : ExcName → Option Value} {mg mb : Str → Option Value}
  (dp un : Nat) (gd : Option (List Code)) (cn : Str) (cs : Scope) (a : Addr) (ccd : Value) (cl : List (Str × Addr)) (outer : List Env) (A₀ : Around) (base h₀ : Heap) (L : Addr) (m : Str → Option Value) (s : Shared) (Q E : Value → Shared → Prop)
  (led : Led) (V z b q : Addr) (c z0 z1 b0 b1 q0 q1 : Int) (tc tz0 tz1 tb0 tb1 tq0 tq1 : Tok) (b2 q2 : Addr)
  (B : Below A₀ base outer h₀) (F : Fr h₀ L s.heap m) (X : (KH w.params).In h₀) (N : News h₀ L s.heap (led))
  (T : Top p loose mean mg mb h₀) (hk : cs.kind = .function) (he1 : (V, tupO [.ref z, .int c tc, .ref b, .ref q]) ∈ led) (he2 : (z, tupO [.int z0 tz0, .int z1 tz1]) ∈ led) (he3 : (b, tupO [.int b0 tb0, .int b1 tb1]) ∈ led) (he4 : (q, tupO [.int q0 tq0, .int q1 tq1]) ∈ led)
  (hd : dp + 20 < recursionLimit) (hu : un + 200 < cLine)
  (ret : ∀ (D : Addr) (h' : Heap) (tk' : Nat), Fr h₀ L h' m → News h₀ L h' ((D, tupO [.ref z, .int c tc, .ref b2, .ref q2]) :: led) → Q (.ref D) { s with heap := h', toks := tk' }):
  wpAny (model prg w) (ktrTop dp un gd cn cs L a ccd cl outer) (call (.ref (k_addr% "with_teller")) [.ref V, .ref b2, .ref q2]) Q E s :=
  teller4_in ⟨dp, un, gd, cn, cs, L, a, ccd, cl, outer⟩ A₀ base h₀ m s Q E led V z b q c z0 z1 b0 b1 q0 q1 tc tz0 tz1 tb0 tb1 tq0 tq1 b2 q2 B F X N T hk he1 he2 he3 he4 hd hu ret
theorem samep4_in {w : World} {p : Program} {loose : List Str} {mean : ExcName → Option Value} {mg mb : Str → Option Value}
  (κ : Cx) (A₀ : Around) (base h₀ : Heap) (m : Str → Option Value) (s : Shared) (Q E : Value → Shared → Prop)
  (led : Led) (V z b q Vw zw bw qw : Addr) (c z0 z1 b0 b1 q0 q1 cw z0w z1w b0w b1w q0w q1w : Int) (tc tz0 tz1 tb0 tb1 tq0 tq1 tcw tz0w tz1w tb0w tb1w tq0w tq1w : Tok)
  (B : Below A₀ base κ.outer h₀) (F : Fr h₀ κ.L s.heap m) (X : (KH w.params).In h₀) (N : News h₀ κ.L s.heap (led))
  (T : Top p loose mean mg mb h₀) (hk : κ.cs.kind = .function) (he1 : (V, tupO [.ref z, .int c tc, .ref b, .ref q]) ∈ led) (he2 : (z, tupO [.int z0 tz0, .int z1 tz1]) ∈ led) (he3 : (b, tupO [.int b0 tb0, .int b1 tb1]) ∈ led) (he4 : (q, tupO [.int q0 tq0, .int q1 tq1]) ∈ led) (he5 : (Vw, tupO [.ref zw, .int cw tcw, .ref bw, .ref qw]) ∈ led) (he6 : (zw, tupO [.int z0w tz0w, .int z1w tz1w]) ∈ led) (he7 : (bw, tupO [.int b0w tb0w, .int b1w tb1w]) ∈ led) (he8 : (qw, tupO [.int q0w tq0w, .int q1w tq1w]) ∈ led)
  (hd : κ.dp + 20 < recursionLimit) (hu : κ.un + 200 < cLine)
  (ret : ∀ (v : Bool) (h' : Heap) (tk' : Nat), v = (decide (b1 = b1w) && decide (q1 = q1w)) → Fr h₀ κ.L h' m → News h₀ κ.L h' led → Q (.bool v) { s with heap := h', toks := tk' }):
  wpAny (model prg w) (T1 κ) (call (.ref (k_addr% "is_from_same_port")) [.ref V, .ref Vw]) Q E s := (by exact use_of : Use _ (by
 first
 | (
  have N9 : News h₀ κ.L s.heap ((V, tupO [.ref z, .int c tc, .ref b, .ref q]) :: (z, tupO [.int z0 tz0, .int z1 tz1]) :: (b, tupO [.int b0 tb0, .int b1 tb1]) :: (q, tupO [.int q0 tq0, .int q1 tq1]) :: (Vw, tupO [.ref zw, .int cw tcw, .ref bw, .ref qw]) :: (zw, tupO [.int z0w tz0w, .int z1w tz1w]) :: (bw, tupO [.int b0w tb0w, .int b1w tb1w]) :: (qw, tupO [.int q0w tq0w, .int q1w tq1w]) :: led) := by
    intro p9 hp9
    simp only [List.mem_cons] at hp9
    rcases hp9 with rfl | rfl | rfl | rfl | rfl | rfl | rfl | rfl | hp9
    · exact N _ he1
    · exact N _ he2
    · exact N _ he3
    · exact N _ he4
    · exact N _ he5
    · exact N _ he6
    · exact N _ he7
    · exact N _ he8
    · exact N _ hp9
  clear N
  refine wpAny_call ?_
  k_dflt k_enter
  k_steps
  all_goals (refine' ret _ _ _ ?e7 ?f7 ?n7; (case f7 => k_asm); (case n7 => refine news_pick (by assumption) ?_; (repeat (first | exact Picks.self | (refine' Picks.cons ?w ?_; (case w => k_upd)) | refine' Picks.up ?_))); (case e7 => first | exact sp_yes (by assumption) | exact sp_no (by assumption))))
 | fail))


theorem samep4 {w : World} {p : Program} {loose : List Str} {mean : ExcName → Option Value} {mg mb : Str → Option Value}
  (dp un : Nat) (gd : Option (List Code)) (cn : Str) (cs : Scope) (a : Addr) (ccd : Value) (cl : List (Str × Addr)) (outer : List Env) (A₀ : Around) (base h₀ : Heap) (L : Addr) (m : Str → Option Value) (s : Shared) (Q E : Value → Shared → Prop)
  (led : Led) (V z b q Vw zw bw qw : Addr) (c z0 z1 b0 b1 q0 q1 cw z0w z1w b0w b1w q0w q1w : Int) (tc tz0 tz1 tb0 tb1 tq0 tq1 tcw tz0w tz1w tb0w tb1w tq0w tq1w : Tok)
  (B : Below A₀ base outer h₀) (F : Fr h₀ L s.heap m) (X : (KH w.params).In h₀) (N : News h₀ L s.heap (led))
  (T : Top p loose mean mg mb h₀) (hk : cs.kind = .function) (he1 : (V, tupO [.ref z, .int c tc, .ref b, .ref q]) ∈ led) (he2 : (z, tupO [.int z0 tz0, .int z1 tz1]) ∈ led) (he3 : (b, tupO [.int b0 tb0, .int b1 tb1]) ∈ led) (he4 : (q, tupO [.int q0 tq0, .int q1 tq1]) ∈ led) (he5 : (Vw, tupO [.ref zw, .int cw tcw, .ref bw, .ref qw]) ∈ led) (he6 : (zw, tupO [.int z0w tz0w, .int z1w tz1w]) ∈ led) (he7 : (bw, tupO [.int b0w tb0w, .int b1w tb1w]) ∈ led) (he8 : (qw, tupO [.int q0w tq0w, .int q1w tq1w]) ∈ led)
  (hd : dp + 20 < recursionLimit) (hu : un + 200 < cLine)
  (ret : ∀ (v : Bool) (h' : Heap) (tk' : Nat), v = (decide (b1 = b1w) && decide (q1 = q1w)) → Fr h₀ L h' m → News h₀ L h' led → Q (.bool v) { s with heap := h', toks := tk' }):
  wpAny (model prg w) (ktrTop dp un gd cn cs L a ccd cl outer) (call (.ref (k_addr% "is_from_same_port")) [.ref V, .ref Vw]) Q E s :=
  samep4_in ⟨dp, un, gd, cn, cs, L, a, ccd, cl, outer⟩ A₀ base h₀ m s Q E led V z b q Vw zw bw qw c z0 z1 b0 b1 q0 q1 cw z0w z1w b0w b1w q0w q1w tc tz0 tz1 tb0 tb1 tq0 tq1 tcw tz0w tz1w tb0w tb1w tq0w tq1w B F X N T hk he1 he2 he3 he4 he5 he6 he7 he8 hd hu ret
theorem teller6_in {w : World} {p : Program} {loose : List Str} {mean : ExcName → Option Value} {mg mb : Str → Option Value}
  (κ : Cx) (A₀ : Around) (base h₀ : Heap) (m : Str → Option Value) (s : Shared) (Q E : Value → Shared → Prop)
  (led : Led) (V z f b q : Addr) (c e z0 z1 f0 f1 b0 b1 q0 q1 : Int) (tc te tz0 tz1 tf0 tf1 tb0 tb1 tq0 tq1 : Tok) (b2 q2 : Addr)
  (B : Below A₀ base κ.outer h₀) (F : Fr h₀ κ.L s.heap m) (X : (KH w.params).In h₀) (N : News h₀ κ.L s.heap (led))
  (T : Top p loose mean mg mb h₀) (hk : κ.cs.kind = .function) (he1 : (V, tupO [.ref z, .int e te, .ref f, .int c tc, .ref b, .ref q]) ∈ led) (he2 : (z, tupO [.int z0 tz0, .int z1 tz1]) ∈ led) (he3 : (f, tupO [.int f0 tf0, .int f1 tf1]) ∈ led) (he4 : (b, tupO [.int b0 tb0, .int b1 tb1]) ∈ led) (he5 : (q, tupO [.int q0 tq0, .int q1 tq1]) ∈ led)
  (hd : κ.dp + 20 < recursionLimit) (hu : κ.un + 200 < cLine)
  (ret : ∀ (D : Addr) (h' : Heap) (tk' : Nat), Fr h₀ κ.L h' m → News h₀ κ.L h' ((D, tupO [.ref z, .int e te, .ref f, .int c tc, .ref b2, .ref q2]) :: led) → Q (.ref D) { s with heap := h', toks := tk' }):
  wpAny (model prg w) (T1 κ) (call (.ref (k_addr% "with_teller")) [.ref V, .ref b2, .ref q2]) Q E s := (by exact use_of : Use _ (by
 first
 | (
  have N9 : News h₀ κ.L s.heap ((V, tupO [.ref z, .int e te, .ref f, .int c tc, .ref b, .ref q]) :: (z, tupO [.int z0 tz0, .int z1 tz1]) :: (f, tupO [.int f0 tf0, .int f1 tf1]) :: (b, tupO [.int b0 tb0, .int b1 tb1]) :: (q, tupO [.int q0 tq0, .int q1 tq1]) :: led) := by
    intro p9 hp9
    simp only [List.mem_cons] at hp9
    rcases hp9 with rfl | rfl | rfl | rfl | rfl | hp9
    · exact N _ he1
    · exact N _ he2
    · exact N _ he3
    · exact N _ he4
    · exact N _ he5
    · exact N _ hp9
  clear N
  refine wpAny_call ?_
  k_dflt k_enter
  k_steps
  all_goals (refine' ret _ _ _ ?f7 ?n7; (case f7 => k_asm); (case n7 => refine news_pick (by assumption) ?_; (repeat (first | exact Picks.self | (refine' Picks.cons ?w ?_; (case w => k_upd)) | refine' Picks.up ?_)))))
 | fail))


theorem teller6 {w : World} {p : Program} {loose : List Str} {mean : ExcName → Option Value} {mg mb : Str → Option Value}
  (dp un : Nat) (gd : Option (List Code)) (cn : Str) (cs : Scope) (a : Addr) (ccd : Value) (cl : List (Str × Addr)) (outer : List Env) (A₀ : Around) (base h₀ : Heap) (L : Addr) (m : Str → Option Value) (s : Shared) (Q E : Value → Shared → Prop)
  (led : Led) (V z f b q : Addr) (c e z0 z1 f0 f1 b0 b1 q0 q1 : Int) (tc te tz0 tz1 tf0 tf1 tb0 tb1 tq0 tq1 : Tok) (b2 q2 : Addr)
  (B : Below A₀ base outer h₀) (F : Fr h₀ L s.heap m) (X : (KH w.params).In h₀) (N : News h₀ L s.heap (led))
  (T : Top p loose mean mg mb h₀) (hk : cs.kind = .function) (he1 : (V, tupO [.ref z, .int e te, .ref f, .int c tc, .ref b, .ref q]) ∈ led) (he2 : (z, tupO [.int z0 tz0, .int z1 tz1]) ∈ led) (he3 : (f, tupO [.int f0 tf0, .int f1 tf1]) ∈ led) (he4 : (b, tupO [.int b0 tb0, .int b1 tb1]) ∈ led) (he5 : (q, tupO [.int q0 tq0, .int q1 tq1]) ∈ led)
  (hd : dp + 20 < recursionLimit) (hu : un + 200 < cLine)
  (ret : ∀ (D : Addr) (h' : Heap) (tk' : Nat), Fr h₀ L h' m → News h₀ L h' ((D, tupO [.ref z, .int e te, .ref f, .int c tc, .ref b2, .ref q2]) :: led) → Q (.ref D) { s with heap := h', toks := tk' }):
  wpAny (model prg w) (ktrTop dp un gd cn cs L a ccd cl outer) (call (.ref (k_addr% "with_teller")) [.ref V, .ref b2, .ref q2]) Q E s :=
  teller6_in ⟨dp, un, gd, cn, cs, L, a, ccd, cl, outer⟩ A₀ base h₀ m s Q E led V z f b q c e z0 z1 f0 f1 b0 b1 q0 q1 tc te tz0 tz1 tf0 tf1 tb0 tb1 tq0 tq1 b2 q2 B F X N T hk he1 he2 he3 he4 he5 hd hu ret
theorem samep6_in {w : World} {p : Program} {loose : List Str} {mean : ExcName → Option Value} {mg mb : Str → Option Value}
  (κ : Cx) (A₀ : Around) (base h₀ : Heap) (m : Str → Option Value) (s : Shared) (Q E : Value → Shared → Prop)
  (led : Led) (V z f b q Vw zw fw bw qw : Addr) (c e z0 z1 f0 f1 b0 b1 q0 q1 cw ew z0w z1w f0w f1w b0w b1w q0w q1w : Int) (tc te tz0 tz1 tf0 tf1 tb0 tb1 tq0 tq1 tcw tew tz0w tz1w tf0w tf1w tb0w tb1w tq0w tq1w : Tok)
  (B : Below A₀ base κ.outer h₀) (F : Fr h₀ κ.L s.heap m) (X : (KH w.params).In h₀) (N : News h₀ κ.L s.heap (led))
  (T : Top p loose mean mg mb h₀) (hk : κ.cs.kind = .function) (he1 : (V, tupO [.ref z, .int e te, .ref f, .int c tc, .ref b, .ref q]) ∈ led) (he2 : (z, tupO [.int z0 tz0, .int z1 tz1]) ∈ led) (he3 : (f, tupO [.int f0 tf0, .int f1 tf1]) ∈ led) (he4 : (b, tupO [.int b0 tb0, .int b1 tb1]) ∈ led) (he5 : (q, tupO [.int q0 tq0, .int q1 tq1]) ∈ led) (he6 : (Vw, tupO [.ref zw, .int ew tew, .ref fw, .int cw tcw, .ref bw, .ref qw]) ∈ led) (he7 : (zw, tupO [.int z0w tz0w, .int z1w tz1w]) ∈ led) (he8 : (fw, tupO [.int f0w tf0w, .int f1w tf1w]) ∈ led) (he9 : (bw, tupO [.int b0w tb0w, .int b1w tb1w]) ∈ led) (he10 : (qw, tupO [.int q0w tq0w, .int q1w tq1w]) ∈ led)
  (hd : κ.dp + 20 < recursionLimit) (hu : κ.un + 200 < cLine)
  (ret : ∀ (v : Bool) (h' : Heap) (tk' : Nat), v = (decide (b1 = b1w) && decide (q1 = q1w)) → Fr h₀ κ.L h' m → News h₀ κ.L h' led → Q (.bool v) { s with heap := h', toks := tk' }):
  wpAny (model prg w) (T1 κ) (call (.ref (k_addr% "is_from_same_port")) [.ref V, .ref Vw]) Q E s := (by exact use_of : Use _ (by
 first
 | (
  have N9 : News h₀ κ.L s.heap ((V, tupO [.ref z, .int e te, .ref f, .int c tc, .ref b, .ref q]) :: (z, tupO [.int z0 tz0, .int z1 tz1]) :: (f, tupO [.int f0 tf0, .int f1 tf1]) :: (b, tupO [.int b0 tb0, .int b1 tb1]) :: (q, tupO [.int q0 tq0, .int q1 tq1]) :: (Vw, tupO [.ref zw, .int ew tew, .ref fw, .int cw tcw, .ref bw, .ref qw]) :: (zw, tupO [.int z0w tz0w, .int z1w tz1w]) :: (fw, tupO [.int f0w tf0w, .int f1w tf1w]) :: (bw, tupO [.int b0w tb0w, .int b1w tb1w]) :: (qw, tupO [.int q0w tq0w, .int q1w tq1w]) :: led) := by
    intro p9 hp9
    simp only [List.mem_cons] at hp9
    rcases hp9 with rfl | rfl | rfl | rfl | rfl | rfl | rfl | rfl | rfl | rfl | hp9
    · exact N _ he1
    · exact N _ he2
    · exact N _ he3
    · exact N _ he4
    · exact N _ he5
    · exact N _ he6
    · exact N _ he7
    · exact N _ he8
    · exact N _ he9
    · exact N _ he10
    · exact N _ hp9
  clear N
  refine wpAny_call ?_
  k_dflt k_enter
  k_steps
  all_goals (refine' ret _ _ _ ?e7 ?f7 ?n7; (case f7 => k_asm); (case n7 => refine news_pick (by assumption) ?_; (repeat (first | exact Picks.self | (refine' Picks.cons ?w ?_; (case w => k_upd)) | refine' Picks.up ?_))); (case e7 => first | exact sp_yes (by assumption) | exact sp_no (by assumption))))
 | fail))
theorem samep6 {w : World} {p : Program} {loose : List Str} {mean : ExcName → Option Value} {mg mb : Str → Option Value}
  (dp un : Nat) (gd : Option (List Code)) (cn : Str) (cs : Scope) (a : Addr) (ccd : Value) (cl : List (Str × Addr)) (outer : List Env) (A₀ : Around) (base h₀ : Heap) (L : Addr) (m : Str → Option Value) (s : Shared) (Q E : Value → Shared → Prop)
  (led : Led) (V z f b q Vw zw fw bw qw : Addr) (c e z0 z1 f0 f1 b0 b1 q0 q1 cw ew z0w z1w f0w f1w b0w b1w q0w q1w : Int) (tc te tz0 tz1 tf0 tf1 tb0 tb1 tq0 tq1 tcw tew tz0w tz1w tf0w tf1w tb0w tb1w tq0w tq1w : Tok)
  (B : Below A₀ base outer h₀) (F : Fr h₀ L s.heap m) (X : (KH w.params).In h₀) (N : News h₀ L s.heap (led))
  (T : Top p loose mean mg mb h₀) (hk : cs.kind = .function) (he1 : (V, tupO [.ref z, .int e te, .ref f, .int c tc, .ref b, .ref q]) ∈ led) (he2 : (z, tupO [.int z0 tz0, .int z1 tz1]) ∈ led) (he3 : (f, tupO [.int f0 tf0, .int f1 tf1]) ∈ led) (he4 : (b, tupO [.int b0 tb0, .int b1 tb1]) ∈ led) (he5 : (q, tupO [.int q0 tq0, .int q1 tq1]) ∈ led) (he6 : (Vw, tupO [.ref zw, .int ew tew, .ref fw, .int cw tcw, .ref bw, .ref qw]) ∈ led) (he7 : (zw, tupO [.int z0w tz0w, .int z1w tz1w]) ∈ led) (he8 : (fw, tupO [.int f0w tf0w, .int f1w tf1w]) ∈ led) (he9 : (bw, tupO [.int b0w tb0w, .int b1w tb1w]) ∈ led) (he10 : (qw, tupO [.int q0w tq0w, .int q1w tq1w]) ∈ led)
  (hd : dp + 20 < recursionLimit) (hu : un + 200 < cLine)
  (ret : ∀ (v : Bool) (h' : Heap) (tk' : Nat), v = (decide (b1 = b1w) && decide (q1 = q1w)) → Fr h₀ L h' m → News h₀ L h' led → Q (.bool v) { s with heap := h', toks := tk' }):
  wpAny (model prg w) (ktrTop dp un gd cn cs L a ccd cl outer) (call (.ref (k_addr% "is_from_same_port")) [.ref V, .ref Vw]) Q E s :=
  samep6_in ⟨dp, un, gd, cn, cs, L, a, ccd, cl, outer⟩ A₀ base h₀ m s Q E led V z f b q Vw zw fw bw qw c e z0 z1 f0 f1 b0 b1 q0 q1 cw ew z0w z1w f0w f1w b0w b1w q0w q1w tc te tz0 tz1 tf0 tf1 tb0 tb1 tq0 tq1 tcw tew tz0w tz1w tf0w tf1w tb0w tb1w tq0w tq1w B F X N T hk he1 he2 he3 he4 he5 he6 he7 he8 he9 he10 hd hu ret
theorem wdoL115 : True := by
  k_with "off L115" => skip
  trivial
end
section
set_option maxHeartbeats 4000000
theorem wdsL117a : True := by
  k_with "my k_all" =>
    fail_if_success (k_extra "off L117a")
    (first | (with_reducible assumption) | ((with_reducible show ∀ p ∈ (_ :: _), _); refine' List.forall_mem_cons.mpr ⟨?_, ?_⟩; (next => (dsimp only; first | (with_reducible assumption) | (with_reducible exact Ne.symm (by assumption)) | k_ne)); (next => k_all)) | exact lt_self (by assumption) | exact lt_up (by assumption) | assumption)
  k_with "compareOp NotEq ref ref" =>
    fail_if_success (k_extra "off L117a")
    ((k_here; (with_reducible show wpAny _ _ (compareOp CmpOp.NotEq (Value.ref _) (Value.ref _)) _ _ _); k_dflt (first | (refine' ne_made [true, false, true, true] ?z4981N ?z4981w1 ?z4981s1 ?z4981v1 ?z4981w2 ?z4981s2 ?z4981v2 ?z4981k ?z4981u ?_; (case z4981N => k_asm); (case z4981w1 => k_upd); (case z4981s1 => rfl); (case z4981w2 => k_upd); (case z4981s2 => rfl); (case z4981v1 => exact VI.tup (by k_upd) (VI.int (VI.tup (by k_upd) (VI.tup (by k_upd) VI.nil)))); (case z4981v2 => exact VI.tup (by k_upd) (VI.int (VI.tup (by k_upd) (VI.tup (by k_upd) VI.nil)))); (case z4981k => rfl); (case z4981u => first | ke_room | ktr_room); intro b' hb'))))
  k_with "compareOp Lt ref ref" =>
    fail_if_success (k_extra "off L117a")
    ((k_here; (with_reducible show wpAny _ _ (compareOp CmpOp.Lt (Value.ref _) (Value.ref _)) _ _ _); k_dflt (first | (refine' lt_made [true, false, true, true] ?z5594N ?z5594w1 ?z5594s1 ?z5594v1 ?z5594w2 ?z5594s2 ?z5594v2 ?z5594k ?z5594u ?_; (case z5594N => k_asm); (case z5594w1 => k_upd); (case z5594s1 => rfl); (case z5594w2 => k_upd); (case z5594s2 => rfl); (case z5594v1 => exact VI.tup (by k_upd) (VI.int (VI.tup (by k_upd) (VI.tup (by k_upd) VI.nil)))); (case z5594v2 => exact VI.tup (by k_upd) (VI.int (VI.tup (by k_upd) (VI.tup (by k_upd) VI.nil)))); (case z5594k => rfl); (case z5594u => first | ke_room | ktr_room); intro b' hb'))))
  k_with "call ref" =>
    fail_if_success (k_extra "off L117a")
    ((k_here; (with_reducible show wpAny _ _ (call (Value.ref (k_addr% "is_from_same_port")) [Value.ref _, Value.ref _]) _ _ _); k_dflt (refine' samep4 _ _ _ _ _ _ _ _ _ _ _ _ _ _ _ _ _ _ _ _ _ _ _ _ _ _ _ _ _ _ _ _ _ _ _ _ _ _ _ _ _ _ _ _ _ _ _ _ _ _ _ _ _ _ ?z5866cB ?z5866cF ?z5866cX ?z5866cN ?z5866cT ?z5866cK ?z5866h1 ?z5866h2 ?z5866h3 ?z5866h4 ?z5866h5 ?z5866h6 ?z5866h7 ?z5866h8 ?z5866cd ?z5866cu (fun v' h' tk' hv' F' N' => ?_); (case z5866cF => k_asm); (case z5866cB => k_asm); (case z5866cX => k_asm); (case z5866cN => k_asm); (case z5866cT => k_asm); (case z5866cK => first | exact rfl | assumption); (case z5866h1 => (refine' mem_pick ?z5866w9; (case z5866w9 => k_upd))); (case z5866h2 => (refine' mem_pick ?z5866w9; (case z5866w9 => k_upd))); (case z5866h3 => (refine' mem_pick ?z5866w9; (case z5866w9 => k_upd))); (case z5866h4 => (refine' mem_pick ?z5866w9; (case z5866w9 => k_upd))); (case z5866h5 => (refine' mem_pick ?z5866w9; (case z5866w9 => k_upd))); (case z5866h6 => (refine' mem_pick ?z5866w9; (case z5866w9 => k_upd))); (case z5866h7 => (refine' mem_pick ?z5866w9; (case z5866w9 => k_upd))); (case z5866h8 => (refine' mem_pick ?z5866w9; (case z5866w9 => k_upd))); (case z5866cd => ktr_room); (case z5866cu => ktr_room); all_goals (try dsimp only))))
  trivial
theorem takes4_in {w : World} {p : Program} {loose : List Str} {mean : ExcName → Option Value} {mg mb : Str → Option Value}
  (κ : Cx) (A₀ : Around) (base h₀ : Heap) (m : Str → Option Value) (s : Shared) (Q E : Value → Shared → Prop)
  (led : Led) (V z b q Vw zw bw qw : Addr) (c z0 z1 b0 b1 q0 q1 cw z0w z1w b0w b1w q0w q1w : Int) (tc tz0 tz1 tb0 tb1 tq0 tq1 tcw tz0w tz1w tb0w tb1w tq0w tq1w : Tok)
  (B : Below A₀ base κ.outer h₀) (F : Fr h₀ κ.L s.heap m) (X : (KH w.params).In h₀) (N : News h₀ κ.L s.heap (led))
  (T : Top p loose mean mg mb h₀) (hk : κ.cs.kind = .function) (he1 : (V, tupO [.ref z, .int c tc, .ref b, .ref q]) ∈ led) (he2 : (z, tupO [.int z0 tz0, .int z1 tz1]) ∈ led) (he3 : (b, tupO [.int b0 tb0, .int b1 tb1]) ∈ led) (he4 : (q, tupO [.int q0 tq0, .int q1 tq1]) ∈ led) (he5 : (Vw, tupO [.ref zw, .int cw tcw, .ref bw, .ref qw]) ∈ led) (he6 : (zw, tupO [.int z0w tz0w, .int z1w tz1w]) ∈ led) (he7 : (bw, tupO [.int b0w tb0w, .int b1w tb1w]) ∈ led) (he8 : (qw, tupO [.int q0w tq0w, .int q1w tq1w]) ∈ led)
  (hd : κ.dp + 40 < recursionLimit) (hu : κ.un + 400 < cLine)
  (ret : ∀ (v : Bool) (h' : Heap) (tk' : Nat), v = (ltV [[z0, z1], [c], [b0, b1], [q0, q1]] [[z0w, z1w], [cw], [b0w, b1w], [q0w, q1w]] || (!(eqV [[z0, z1], [c], [b0, b1], [q0, q1]] [[z0w, z1w], [cw], [b0w, b1w], [q0w, q1w]]) && (decide (b1 = b1w) && decide (q1 = q1w)))) → Fr h₀ κ.L h' m → News h₀ κ.L h' led → Q (.bool v) { s with heap := h', toks := tk' }):
  wpAny (model prg w) (T1 κ) (call (.ref (k_addr% "takes_over")) [.ref V, .ref Vw]) Q E s := (by exact use_of : Use _ (by
 first
 | (
  have N9 : News h₀ κ.L s.heap ((V, tupO [.ref z, .int c tc, .ref b, .ref q]) :: (z, tupO [.int z0 tz0, .int z1 tz1]) :: (b, tupO [.int b0 tb0, .int b1 tb1]) :: (q, tupO [.int q0 tq0, .int q1 tq1]) :: (Vw, tupO [.ref zw, .int cw tcw, .ref bw, .ref qw]) :: (zw, tupO [.int z0w tz0w, .int z1w tz1w]) :: (bw, tupO [.int b0w tb0w, .int b1w tb1w]) :: (qw, tupO [.int q0w tq0w, .int q1w tq1w]) :: led) := by
    intro p9 hp9
    simp only [List.mem_cons] at hp9
    rcases hp9 with rfl | rfl | rfl | rfl | rfl | rfl | rfl | rfl | hp9
    · exact N _ he1
    · exact N _ he2
    · exact N _ he3
    · exact N _ he4
    · exact N _ he5
    · exact N _ he6
    · exact N _ he7
    · exact N _ he8
    · exact N _ hp9
  clear N
  refine wpAny_call ?_
  k_dflt k_enter
  k_steps
  all_goals (refine' ret _ _ _ ?e7 ?f7 ?n7; (case f7 => k_asm); (case n7 => refine news_pick (by assumption) ?_; (repeat (first | exact Picks.self | (refine' Picks.cons ?w ?_; (case w => k_upd)) | refine' Picks.up ?_))); (case e7 => first | exact or_lt (by assumption) (by assumption) | exact or_eq (by assumption) (by assumption) (by assumption) (by assumption) | exact or_sp (by assumption) (by assumption) (by assumption) (by assumption) (by assumption))))
 | fail))
theorem takes4 {w : World} {p : Program} {loose : List Str} {mean : ExcName → Option Value} {mg mb : Str → Option Value}
  (dp un : Nat) (gd : Option (List Code)) (cn : Str) (cs : Scope) (a : Addr) (ccd : Value) (cl : List (Str × Addr)) (outer : List Env) (A₀ : Around) (base h₀ : Heap) (L : Addr) (m : Str → Option Value) (s : Shared) (Q E : Value → Shared → Prop)
  (led : Led) (V z b q Vw zw bw qw : Addr) (c z0 z1 b0 b1 q0 q1 cw z0w z1w b0w b1w q0w q1w : Int) (tc tz0 tz1 tb0 tb1 tq0 tq1 tcw tz0w tz1w tb0w tb1w tq0w tq1w : Tok)
  (B : Below A₀ base outer h₀) (F : Fr h₀ L s.heap m) (X : (KH w.params).In h₀) (N : News h₀ L s.heap (led))
  (T : Top p loose mean mg mb h₀) (hk : cs.kind = .function) (he1 : (V, tupO [.ref z, .int c tc, .ref b, .ref q]) ∈ led) (he2 : (z, tupO [.int z0 tz0, .int z1 tz1]) ∈ led) (he3 : (b, tupO [.int b0 tb0, .int b1 tb1]) ∈ led) (he4 : (q, tupO [.int q0 tq0, .int q1 tq1]) ∈ led) (he5 : (Vw, tupO [.ref zw, .int cw tcw, .ref bw, .ref qw]) ∈ led) (he6 : (zw, tupO [.int z0w tz0w, .int z1w tz1w]) ∈ led) (he7 : (bw, tupO [.int b0w tb0w, .int b1w tb1w]) ∈ led) (he8 : (qw, tupO [.int q0w tq0w, .int q1w tq1w]) ∈ led)
  (hd : dp + 40 < recursionLimit) (hu : un + 400 < cLine)
  (ret : ∀ (v : Bool) (h' : Heap) (tk' : Nat), v = (ltV [[z0, z1], [c], [b0, b1], [q0, q1]] [[z0w, z1w], [cw], [b0w, b1w], [q0w, q1w]] || (!(eqV [[z0, z1], [c], [b0, b1], [q0, q1]] [[z0w, z1w], [cw], [b0w, b1w], [q0w, q1w]]) && (decide (b1 = b1w) && decide (q1 = q1w)))) → Fr h₀ L h' m → News h₀ L h' led → Q (.bool v) { s with heap := h', toks := tk' }):
  wpAny (model prg w) (ktrTop dp un gd cn cs L a ccd cl outer) (call (.ref (k_addr% "takes_over")) [.ref V, .ref Vw]) Q E s :=
  takes4_in ⟨dp, un, gd, cn, cs, L, a, ccd, cl, outer⟩ A₀ base h₀ m s Q E led V z b q Vw zw bw qw c z0 z1 b0 b1 q0 q1 cw z0w z1w b0w b1w q0w q1w tc tz0 tz1 tb0 tb1 tq0 tq1 tcw tz0w tz1w tb0w tb1w tq0w tq1w B F X N T hk he1 he2 he3 he4 he5 he6 he7 he8 hd hu ret
theorem wdoL117a : True := by
  k_with "off L117a" => skip
  trivial
end
section
set_option maxHeartbeats 4000000
theorem wdsL117b : True := by
  k_with "my k_all" =>
    fail_if_success (k_extra "off L117b")
    (first | (with_reducible assumption) | ((with_reducible show ∀ p ∈ (_ :: _), _); refine' List.forall_mem_cons.mpr ⟨?_, ?_⟩; (next => (dsimp only; first | (with_reducible assumption) | (with_reducible exact Ne.symm (by assumption)) | k_ne)); (next => k_all)) | exact lt_self (by assumption) | exact lt_up (by assumption) | assumption)
  k_with "compareOp NotEq ref ref" =>
    fail_if_success (k_extra "off L117b")
    ((k_here; (with_reducible show wpAny _ _ (compareOp CmpOp.NotEq (Value.ref _) (Value.ref _)) _ _ _); k_dflt (first | (refine' ne_made [true, false, true, false, true, true] ?z6473N ?z6473w1 ?z6473s1 ?z6473v1 ?z6473w2 ?z6473s2 ?z6473v2 ?z6473k ?z6473u ?_; (case z6473N => k_asm); (case z6473w1 => k_upd); (case z6473s1 => rfl); (case z6473w2 => k_upd); (case z6473s2 => rfl); (case z6473v1 => exact VI.tup (by k_upd) (VI.int (VI.tup (by k_upd) (VI.int (VI.tup (by k_upd) (VI.tup (by k_upd) VI.nil)))))); (case z6473v2 => exact VI.tup (by k_upd) (VI.int (VI.tup (by k_upd) (VI.int (VI.tup (by k_upd) (VI.tup (by k_upd) VI.nil)))))); (case z6473k => rfl); (case z6473u => first | ke_room | ktr_room); intro b' hb'))))
  k_with "compareOp Lt ref ref" =>
    fail_if_success (k_extra "off L117b")
    ((k_here; (with_reducible show wpAny _ _ (compareOp CmpOp.Lt (Value.ref _) (Value.ref _)) _ _ _); k_dflt (first | (refine' lt_made [true, false, true, false, true, true] ?z894N ?z894w1 ?z894s1 ?z894v1 ?z894w2 ?z894s2 ?z894v2 ?z894k ?z894u ?_; (case z894N => k_asm); (case z894w1 => k_upd); (case z894s1 => rfl); (case z894w2 => k_upd); (case z894s2 => rfl); (case z894v1 => exact VI.tup (by k_upd) (VI.int (VI.tup (by k_upd) (VI.int (VI.tup (by k_upd) (VI.tup (by k_upd) VI.nil)))))); (case z894v2 => exact VI.tup (by k_upd) (VI.int (VI.tup (by k_upd) (VI.int (VI.tup (by k_upd) (VI.tup (by k_upd) VI.nil)))))); (case z894k => rfl); (case z894u => first | ke_room | ktr_room); intro b' hb'))))
  k_with "call ref" =>
    fail_if_success (k_extra "off L117b")
    ((k_here; (with_reducible show wpAny _ _ (call (Value.ref (k_addr% "is_from_same_port")) [Value.ref _, Value.ref _]) _ _ _); k_dflt (refine' samep6 _ _ _ _ _ _ _ _ _ _ _ _ _ _ _ _ _ _ _ _ _ _ _ _ _ _ _ _ _ _ _ _ _ _ _ _ _ _ _ _ _ _ _ _ _ _ _ _ _ _ _ _ _ _ _ _ _ _ _ _ _ _ _ _ _ _ _ _ ?z9291cB ?z9291cF ?z9291cX ?z9291cN ?z9291cT ?z9291cK ?z9291h1 ?z9291h2 ?z9291h3 ?z9291h4 ?z9291h5 ?z9291h6 ?z9291h7 ?z9291h8 ?z9291h9 ?z9291h10 ?z9291cd ?z9291cu (fun v' h' tk' hv' F' N' => ?_); (case z9291cF => k_asm); (case z9291cB => k_asm); (case z9291cX => k_asm); (case z9291cN => k_asm); (case z9291cT => k_asm); (case z9291cK => first | exact rfl | assumption); (case z9291h1 => (refine' mem_pick ?z9291w9; (case z9291w9 => k_upd))); (case z9291h2 => (refine' mem_pick ?z9291w9; (case z9291w9 => k_upd))); (case z9291h3 => (refine' mem_pick ?z9291w9; (case z9291w9 => k_upd))); (case z9291h4 => (refine' mem_pick ?z9291w9; (case z9291w9 => k_upd))); (case z9291h5 => (refine' mem_pick ?z9291w9; (case z9291w9 => k_upd))); (case z9291h6 => (refine' mem_pick ?z9291w9; (case z9291w9 => k_upd))); (case z9291h7 => (refine' mem_pick ?z9291w9; (case z9291w9 => k_upd))); (case z9291h8 => (refine' mem_pick ?z9291w9; (case z9291w9 => k_upd))); (case z9291h9 => (refine' mem_pick ?z9291w9; (case z9291w9 => k_upd))); (case z9291h10 => (refine' mem_pick ?z9291w9; (case z9291w9 => k_upd))); (case z9291cd => ktr_room); (case z9291cu => ktr_room); all_goals (try dsimp only))))
  trivial
theorem takes6_in {w : World} {p : Program} {loose : List Str} {mean : ExcName → Option Value} {mg mb : Str → Option Value}
  (κ : Cx) (A₀ : Around) (base h₀ : Heap) (m : Str → Option Value) (s : Shared) (Q E : Value → Shared → Prop)
  (led : Led) (V z f b q Vw zw fw bw qw : Addr) (c e z0 z1 f0 f1 b0 b1 q0 q1 cw ew z0w z1w f0w f1w b0w b1w q0w q1w : Int) (tc te tz0 tz1 tf0 tf1 tb0 tb1 tq0 tq1 tcw tew tz0w tz1w tf0w tf1w tb0w tb1w tq0w tq1w : Tok)
  (B : Below A₀ base κ.outer h₀) (F : Fr h₀ κ.L s.heap m) (X : (KH w.params).In h₀) (N : News h₀ κ.L s.heap (led))
  (T : Top p loose mean mg mb h₀) (hk : κ.cs.kind = .function) (he1 : (V, tupO [.ref z, .int e te, .ref f, .int c tc, .ref b, .ref q]) ∈ led) (he2 : (z, tupO [.int z0 tz0, .int z1 tz1]) ∈ led) (he3 : (f, tupO [.int f0 tf0, .int f1 tf1]) ∈ led) (he4 : (b, tupO [.int b0 tb0, .int b1 tb1]) ∈ led) (he5 : (q, tupO [.int q0 tq0, .int q1 tq1]) ∈ led) (he6 : (Vw, tupO [.ref zw, .int ew tew, .ref fw, .int cw tcw, .ref bw, .ref qw]) ∈ led) (he7 : (zw, tupO [.int z0w tz0w, .int z1w tz1w]) ∈ led) (he8 : (fw, tupO [.int f0w tf0w, .int f1w tf1w]) ∈ led) (he9 : (bw, tupO [.int b0w tb0w, .int b1w tb1w]) ∈ led) (he10 : (qw, tupO [.int q0w tq0w, .int q1w tq1w]) ∈ led)
  (hd : κ.dp + 40 < recursionLimit) (hu : κ.un + 400 < cLine)
  (ret : ∀ (v : Bool) (h' : Heap) (tk' : Nat), v = (ltV [[z0, z1], [e], [f0, f1], [c], [b0, b1], [q0, q1]] [[z0w, z1w], [ew], [f0w, f1w], [cw], [b0w, b1w], [q0w, q1w]] || (!(eqV [[z0, z1], [e], [f0, f1], [c], [b0, b1], [q0, q1]] [[z0w, z1w], [ew], [f0w, f1w], [cw], [b0w, b1w], [q0w, q1w]]) && (decide (b1 = b1w) && decide (q1 = q1w)))) → Fr h₀ κ.L h' m → News h₀ κ.L h' led → Q (.bool v) { s with heap := h', toks := tk' }):
  wpAny (model prg w) (T1 κ) (call (.ref (k_addr% "takes_over")) [.ref V, .ref Vw]) Q E s := (by exact use_of : Use _ (by
 first
 | (
  have N9 : News h₀ κ.L s.heap ((V, tupO [.ref z, .int e te, .ref f, .int c tc, .ref b, .ref q]) :: (z, tupO [.int z0 tz0, .int z1 tz1]) :: (f, tupO [.int f0 tf0, .int f1 tf1]) :: (b, tupO [.int b0 tb0, .int b1 tb1]) :: (q, tupO [.int q0 tq0, .int q1 tq1]) :: (Vw, tupO [.ref zw, .int ew tew, .ref fw, .int cw tcw, .ref bw, .ref qw]) :: (zw, tupO [.int z0w tz0w, .int z1w tz1w]) :: (fw, tupO [.int f0w tf0w, .int f1w tf1w]) :: (bw, tupO [.int b0w tb0w, .int b1w tb1w]) :: (qw, tupO [.int q0w tq0w, .int q1w tq1w]) :: led) := by
    intro p9 hp9
    simp only [List.mem_cons] at hp9
    rcases hp9 with rfl | rfl | rfl | rfl | rfl | rfl | rfl | rfl | rfl | rfl | hp9
    · exact N _ he1
    · exact N _ he2
    · exact N _ he3
    · exact N _ he4
    · exact N _ he5
    · exact N _ he6
    · exact N _ he7
    · exact N _ he8
    · exact N _ he9
    · exact N _ he10
    · exact N _ hp9
  clear N
  refine wpAny_call ?_
  k_dflt k_enter
  k_steps
  all_goals (refine' ret _ _ _ ?e7 ?f7 ?n7; (case f7 => k_asm); (case n7 => refine news_pick (by assumption) ?_; (repeat (first | exact Picks.self | (refine' Picks.cons ?w ?_; (case w => k_upd)) | refine' Picks.up ?_))); (case e7 => first | exact or_lt (by assumption) (by assumption) | exact or_eq (by assumption) (by assumption) (by assumption) (by assumption) | exact or_sp (by assumption) (by assumption) (by assumption) (by assumption) (by assumption))))
 | fail))
theorem takes6 {w : World} {p : Program} {loose : List Str} {mean : ExcName → Option Value} {mg mb : Str → Option Value}
  (dp un : Nat) (gd : Option (List Code)) (cn : Str) (cs : Scope) (a : Addr) (ccd : Value) (cl : List (Str × Addr)) (outer : List Env) (A₀ : Around) (base h₀ : Heap) (L : Addr) (m : Str → Option Value) (s : Shared) (Q E : Value → Shared → Prop)
  (led : Led) (V z f b q Vw zw fw bw qw : Addr) (c e z0 z1 f0 f1 b0 b1 q0 q1 cw ew z0w z1w f0w f1w b0w b1w q0w q1w : Int) (tc te tz0 tz1 tf0 tf1 tb0 tb1 tq0 tq1 tcw tew tz0w tz1w tf0w tf1w tb0w tb1w tq0w tq1w : Tok)
  (B : Below A₀ base outer h₀) (F : Fr h₀ L s.heap m) (X : (KH w.params).In h₀) (N : News h₀ L s.heap (led))
  (T : Top p loose mean mg mb h₀) (hk : cs.kind = .function) (he1 : (V, tupO [.ref z, .int e te, .ref f, .int c tc, .ref b, .ref q]) ∈ led) (he2 : (z, tupO [.int z0 tz0, .int z1 tz1]) ∈ led) (he3 : (f, tupO [.int f0 tf0, .int f1 tf1]) ∈ led) (he4 : (b, tupO [.int b0 tb0, .int b1 tb1]) ∈ led) (he5 : (q, tupO [.int q0 tq0, .int q1 tq1]) ∈ led) (he6 : (Vw, tupO [.ref zw, .int ew tew, .ref fw, .int cw tcw, .ref bw, .ref qw]) ∈ led) (he7 : (zw, tupO [.int z0w tz0w, .int z1w tz1w]) ∈ led) (he8 : (fw, tupO [.int f0w tf0w, .int f1w tf1w]) ∈ led) (he9 : (bw, tupO [.int b0w tb0w, .int b1w tb1w]) ∈ led) (he10 : (qw, tupO [.int q0w tq0w, .int q1w tq1w]) ∈ led)
  (hd : dp + 40 < recursionLimit) (hu : un + 400 < cLine)
  (ret : ∀ (v : Bool) (h' : Heap) (tk' : Nat), v = (ltV [[z0, z1], [e], [f0, f1], [c], [b0, b1], [q0, q1]] [[z0w, z1w], [ew], [f0w, f1w], [cw], [b0w, b1w], [q0w, q1w]] || (!(eqV [[z0, z1], [e], [f0, f1], [c], [b0, b1], [q0, q1]] [[z0w, z1w], [ew], [f0w, f1w], [cw], [b0w, b1w], [q0w, q1w]]) && (decide (b1 = b1w) && decide (q1 = q1w)))) → Fr h₀ L h' m → News h₀ L h' led → Q (.bool v) { s with heap := h', toks := tk' }):
  wpAny (model prg w) (ktrTop dp un gd cn cs L a ccd cl outer) (call (.ref (k_addr% "takes_over")) [.ref V, .ref Vw]) Q E s :=
  takes6_in ⟨dp, un, gd, cn, cs, L, a, ccd, cl, outer⟩ A₀ base h₀ m s Q E led V z f b q Vw zw fw bw qw c e z0 z1 f0 f1 b0 b1 q0 q1 cw ew z0w z1w f0w f1w b0w b1w q0w q1w tc te tz0 tz1 tf0 tf1 tb0 tb1 tq0 tq1 tcw tew tz0w tz1w tf0w tf1w tb0w tb1w tq0w tq1w B F X N T hk he1 he2 he3 he4 he5 he6 he7 he8 he9 he10 hd hu ret
theorem wdoL117b : True := by
  k_with "off L117b" => skip
  trivial
end
section
set_option maxHeartbeats 4000000
theorem wdsL125 : True := by
  k_with "call ref" =>
    fail_if_success (k_extra "off L125")
    ((k_here; (with_reducible show wpAny _ _ (call (Value.ref 164) [Value.ref _, Value.int _ _]) _ _ _); k_dflt (refine' take_at ?z6761F ?z6761B ?z6761X ?z6761N ?z6761w ?z6761ne ?z6761T ?z6761K ?z6761p ?z6761a ?z6761b ?z6761d ?z6761u ?_; (case z6761F => k_asm); (case z6761B => k_asm); (case z6761X => k_asm); (case z6761N => k_asm); (case z6761w => k_upd); (case z6761ne => k_all); (case z6761T => k_asm); (case z6761K => first | exact rfl | assumption); (case z6761p => assumption); (case z6761a => first | decide | omega); (case z6761b => first | decide | omega); (case z6761d => ktr_room); (case z6761u => ktr_room); intro d' x' y' t' tx' ty' h' tk' F' N' lo' hi' hp'; (try dsimp only))))
  k_with "subscriptTail" =>
    fail_if_success (k_extra "off L125")
    ((k_here; (with_reducible show wpAny _ _ (subscriptTail _ _ (Value.ref _) (Value.int _ _)) _ _ _); k_dflt (first
      | (refine' item_eq 0 ?z8e ?z8j ?z8hl ?z8hx ?_ ?z8hs; (case z8e => omega); (case z8j => decide); (case z8hl => is_list); (case z8hx => rfl); (case z8hs => with_unfolding_all rfl))
      | (refine' item_eq 1 ?z8e ?z8j ?z8hl ?z8hx ?_ ?z8hs; (case z8e => omega); (case z8j => decide); (case z8hl => is_list); (case z8hx => rfl); (case z8hs => with_unfolding_all rfl)))))
  k_with "my k_all" =>
    fail_if_success (k_extra "off L125")
    (first | (with_reducible assumption) | ((with_reducible show ∀ p ∈ (_ :: _), _); refine' List.forall_mem_cons.mpr ⟨?_, ?_⟩; (next => (dsimp only; first | (with_reducible assumption) | (with_reducible exact Ne.symm (by assumption)) | k_ne)); (next => k_all)) | exact lt_self (by assumption) | exact lt_up (by assumption) | assumption)
  k_with "call ref" =>
    fail_if_success (k_extra "off L125")
    ((k_here; (with_reducible show wpAny _ _ (call (Value.ref (k_addr% "_law_vector")) [Value.ref _, Value.int 4 _]) _ _ _); k_dflt (refine' vecAt4 ?z9326F ?z9326B ?z9326X ?z9326N ?z9326w ?z9326ne ?z9326T ?z9326K ?z9326p ?z9326d ?z9326u ?_; (case z9326F => k_asm); (case z9326B => k_asm); (case z9326X => k_asm); (case z9326N => k_asm); (case z9326w => k_upd); (case z9326ne => k_all); (case z9326T => k_asm); (case z9326K => first | exact rfl | assumption); (case z9326p => assumption); (case z9326d => ktr_room); (case z9326u => ktr_room); intro V' z' b' p' c' z0' z1' b0' b1' p0' p1' tc' t10' t11' t20' t21' t30' t31' x' y' tx' ty' h' tk' F' N' hp' off'; (try dsimp only))))
  k_with "call ref" =>
    fail_if_success (k_extra "off L125")
    ((k_here; (with_reducible show wpAny _ _ (call (Value.ref (k_addr% "_law_vector")) [Value.ref _, Value.int 6 _]) _ _ _); k_dflt (refine' vecAt6 ?z6011F ?z6011B ?z6011X ?z6011N ?z6011w ?z6011ne ?z6011T ?z6011K ?z6011p ?z6011d ?z6011u ?_; (case z6011F => k_asm); (case z6011B => k_asm); (case z6011X => k_asm); (case z6011N => k_asm); (case z6011w => k_upd); (case z6011ne => k_all); (case z6011T => k_asm); (case z6011K => first | exact rfl | assumption); (case z6011p => assumption); (case z6011d => ktr_room); (case z6011u => ktr_room); intro V' z' f' b' p' c' e' z0' z1' f0' f1' b0' b1' p0' p1' tc' te' t10' t11' t40' t41' t20' t21' t30' t31' x' y' tx' ty' h' tk' F' N' hp' off'; (try dsimp only))))
  k_with "call ref" =>
    fail_if_success (k_extra "off L125")
    ((k_here; (with_reducible show wpAny _ _ (call (Value.ref (k_addr% "_law_one")) [Value.ref _, Value.ref _]) _ _ _); k_dflt (refine' one_46 ?z3796F ?z3796B ?z3796X ?z3796N ?z3796w ?z3796hm ?z3796ne ?z3796T ?z3796K ?z3796p ?z3796d ?z3796u ?_ ?_; (case z3796F => k_asm); (case z3796B => k_asm); (case z3796X => k_asm); (case z3796N => k_asm); (case z3796w => k_upd); (case z3796hm => k_upd); (case z3796ne => k_all); (case z3796T => k_asm); (case z3796K => first | exact rfl | assumption); (case z3796p => assumption); (case z3796d => ktr_room); (case z3796u => ktr_room); all_goals (intro mk' t' x' y' tx' ty' h' tk' F' N' hp' off'; (try dsimp only)))))
  k_with "subscriptTail Name Slice ref ref" =>
    fail_if_success (k_extra "off L125")
    ((k_here; (with_reducible show wpAny _ _ (subscriptTail _ (PySem.Expr.Slice _ _ none _) (Value.ref _) (Value.ref _)) _ _ _); k_dflt (first
      | (refine' tup_cut (s := ⟨_, _, _, _, _⟩) 0 2 ?z7839F ?z7839N ?z7839m ?z7839l ?z7839u ?z7839a ?z7839b ?z7839c ?z7839d ?z7839z ?z7839e ?_ ?z7839hs ?z7839ht; (case z7839F => k_asm); (case z7839N => k_asm); (case z7839m => k_mem); (case z7839l => constructor); (case z7839u => constructor); (case z7839a => rfl); (case z7839b => decide); (case z7839c => exact Nat.le_of_ble_eq_true rfl); (case z7839d => (simp only [List.length_cons, List.length_nil]; omega)); (case z7839z => rfl); (case z7839e => exact Nat.le_of_ble_eq_true rfl); (case z7839hs => with_unfolding_all rfl); (case z7839ht => intro _; with_unfolding_all rfl); intro D' h' F' N' l1; (try k_lt l1); (try dsimp only))
      | (refine' tup_cut (s := ⟨_, _, _, _, _⟩) 0 4 ?z7839F ?z7839N ?z7839m ?z7839l ?z7839u ?z7839a ?z7839b ?z7839c ?z7839d ?z7839z ?z7839e ?_ ?z7839hs ?z7839ht; (case z7839F => k_asm); (case z7839N => k_asm); (case z7839m => k_mem); (case z7839l => constructor); (case z7839u => constructor); (case z7839a => rfl); (case z7839b => decide); (case z7839c => exact Nat.le_of_ble_eq_true rfl); (case z7839d => (simp only [List.length_cons, List.length_nil]; omega)); (case z7839z => rfl); (case z7839e => exact Nat.le_of_ble_eq_true rfl); (case z7839hs => with_unfolding_all rfl); (case z7839ht => intro _; with_unfolding_all rfl); intro D' h' F' N' l1; (try k_lt l1); (try dsimp only))
      | (refine' tup_cut (s := ⟨_, _, _, _, _⟩) 2 4 ?z7839F ?z7839N ?z7839m ?z7839l ?z7839u ?z7839a ?z7839b ?z7839c ?z7839d ?z7839z ?z7839e ?_ ?z7839hs ?z7839ht; (case z7839F => k_asm); (case z7839N => k_asm); (case z7839m => k_mem); (case z7839l => constructor); (case z7839u => constructor); (case z7839a => rfl); (case z7839b => decide); (case z7839c => exact Nat.le_of_ble_eq_true rfl); (case z7839d => (simp only [List.length_cons, List.length_nil]; omega)); (case z7839z => rfl); (case z7839e => exact Nat.le_of_ble_eq_true rfl); (case z7839hs => with_unfolding_all rfl); (case z7839ht => intro _; with_unfolding_all rfl); intro D' h' F' N' l1; (try k_lt l1); (try dsimp only))
      | (refine' tup_cut (s := ⟨_, _, _, _, _⟩) 4 6 ?z7839F ?z7839N ?z7839m ?z7839l ?z7839u ?z7839a ?z7839b ?z7839c ?z7839d ?z7839z ?z7839e ?_ ?z7839hs ?z7839ht; (case z7839F => k_asm); (case z7839N => k_asm); (case z7839m => k_mem); (case z7839l => constructor); (case z7839u => constructor); (case z7839a => rfl); (case z7839b => decide); (case z7839c => exact Nat.le_of_ble_eq_true rfl); (case z7839d => (simp only [List.length_cons, List.length_nil]; omega)); (case z7839z => rfl); (case z7839e => exact Nat.le_of_ble_eq_true rfl); (case z7839hs => with_unfolding_all rfl); (case z7839ht => intro _; with_unfolding_all rfl); intro D' h' F' N' l1; (try k_lt l1); (try dsimp only)))))
  k_with "call ref" =>
    fail_if_success (k_extra "off L125")
    ((k_here; (fail_if_success (fail_if_success (first | (have hM9 : Mark4 := by assumption) | fail))); (with_reducible show wpAny _ _ (call (Value.ref (k_addr% "is_from_same_port")) [Value.ref _, Value.ref _]) _ _ _); k_dflt (refine' samep4 _ _ _ _ _ _ _ _ _ _ _ _ _ _ _ _ _ _ _ _ _ _ _ _ _ _ _ _ _ _ _ _ _ _ _ _ _ _ _ _ _ _ _ _ _ _ _ _ _ _ _ _ _ _ ?z3084cB ?z3084cF ?z3084cX ?z3084cN ?z3084cT ?z3084cK ?z3084h1 ?z3084h2 ?z3084h3 ?z3084h4 ?z3084h5 ?z3084h6 ?z3084h7 ?z3084h8 ?z3084cd ?z3084cu (fun v' h' tk' hv' F' N' => ?_); (case z3084cF => k_asm); (case z3084cB => k_asm); (case z3084cX => k_asm); (case z3084cN => k_asm); (case z3084cT => k_asm); (case z3084cK => first | exact rfl | assumption); (case z3084h1 => (refine' mem_pick ?z3084w9; (case z3084w9 => k_upd))); (case z3084h2 => (refine' mem_pick ?z3084w9; (case z3084w9 => k_upd))); (case z3084h3 => (refine' mem_pick ?z3084w9; (case z3084w9 => k_upd))); (case z3084h4 => (refine' mem_pick ?z3084w9; (case z3084w9 => k_upd))); (case z3084h5 => (refine' mem_pick ?z3084w9; (case z3084w9 => k_upd))); (case z3084h6 => (refine' mem_pick ?z3084w9; (case z3084w9 => k_upd))); (case z3084h7 => (refine' mem_pick ?z3084w9; (case z3084w9 => k_upd))); (case z3084h8 => (refine' mem_pick ?z3084w9; (case z3084w9 => k_upd))); (case z3084cd => ktr_room); (case z3084cu => ktr_room); all_goals (try dsimp only))))
  k_with "call ref" =>
    fail_if_success (k_extra "off L125")
    ((k_here; (fail_if_success (fail_if_success (first | (have hM9 : Mark4 := by assumption) | fail))); (with_reducible show wpAny _ _ (call (Value.ref (k_addr% "takes_over")) [Value.ref _, Value.ref _]) _ _ _); k_dflt (refine' takes4 _ _ _ _ _ _ _ _ _ _ _ _ _ _ _ _ _ _ _ _ _ _ _ _ _ _ _ _ _ _ _ _ _ _ _ _ _ _ _ _ _ _ _ _ _ _ _ _ _ _ _ _ _ _ ?z5986cB ?z5986cF ?z5986cX ?z5986cN ?z5986cT ?z5986cK ?z5986h1 ?z5986h2 ?z5986h3 ?z5986h4 ?z5986h5 ?z5986h6 ?z5986h7 ?z5986h8 ?z5986cd ?z5986cu (fun v' h' tk' hv' F' N' => ?_); (case z5986cF => k_asm); (case z5986cB => k_asm); (case z5986cX => k_asm); (case z5986cN => k_asm); (case z5986cT => k_asm); (case z5986cK => first | exact rfl | assumption); (case z5986h1 => (refine' mem_pick ?z5986w9; (case z5986w9 => k_upd))); (case z5986h2 => (refine' mem_pick ?z5986w9; (case z5986w9 => k_upd))); (case z5986h3 => (refine' mem_pick ?z5986w9; (case z5986w9 => k_upd))); (case z5986h4 => (refine' mem_pick ?z5986w9; (case z5986w9 => k_upd))); (case z5986h5 => (refine' mem_pick ?z5986w9; (case z5986w9 => k_upd))); (case z5986h6 => (refine' mem_pick ?z5986w9; (case z5986w9 => k_upd))); (case z5986h7 => (refine' mem_pick ?z5986w9; (case z5986w9 => k_upd))); (case z5986h8 => (refine' mem_pick ?z5986w9; (case z5986w9 => k_upd))); (case z5986cd => ktr_room); (case z5986cu => ktr_room); all_goals (try dsimp only))))
  k_with "call ref" =>
    fail_if_success (k_extra "off L125")
    ((k_here; (fail_if_success (fail_if_success (first | (have hM9 : Mark4 := by assumption) | fail))); (with_reducible show wpAny _ _ (call (Value.ref (k_addr% "with_teller")) [Value.ref _, Value.ref _, Value.ref _]) _ _ _); k_dflt (refine' teller4 _ _ _ _ _ _ _ _ _ _ _ _ _ _ _ _ _ _ _ _ _ _ _ _ _ _ _ _ _ _ _ _ _ _ _ _ _ _ ?z8125cB ?z8125cF ?z8125cX ?z8125cN ?z8125cT ?z8125cK ?z8125h1 ?z8125h2 ?z8125h3 ?z8125h4 ?z8125cd ?z8125cu (fun D' h' tk' F' N' => ?_); (case z8125cF => k_asm); (case z8125cB => k_asm); (case z8125cX => k_asm); (case z8125cN => k_asm); (case z8125cT => k_asm); (case z8125cK => first | exact rfl | assumption); (case z8125h1 => (refine' mem_pick ?z8125w9; (case z8125w9 => k_upd))); (case z8125h2 => (refine' mem_pick ?z8125w9; (case z8125w9 => k_upd))); (case z8125h3 => (refine' mem_pick ?z8125w9; (case z8125w9 => k_upd))); (case z8125h4 => (refine' mem_pick ?z8125w9; (case z8125w9 => k_upd))); (case z8125cd => ktr_room); (case z8125cu => ktr_room); all_goals (try dsimp only))))
  k_with "compareOp NotEq ref ref" =>
    fail_if_success (k_extra "off L125")
    ((k_here; (fail_if_success (fail_if_success (first | (have hM9 : Mark4 := by assumption) | fail))); (with_reducible show wpAny _ _ (compareOp CmpOp.NotEq (Value.ref _) (Value.ref _)) _ _ _); k_dflt (first | (refine' ne_made [true, false, true, true] ?z9782N ?z9782w1 ?z9782s1 ?z9782v1 ?z9782w2 ?z9782s2 ?z9782v2 ?z9782k ?z9782u ?_; (case z9782N => k_asm); (case z9782w1 => k_upd); (case z9782s1 => rfl); (case z9782w2 => k_upd); (case z9782s2 => rfl); (case z9782v1 => exact VI.tup (by k_upd) (VI.int (VI.tup (by k_upd) (VI.tup (by k_upd) VI.nil)))); (case z9782v2 => exact VI.tup (by k_upd) (VI.int (VI.tup (by k_upd) (VI.tup (by k_upd) VI.nil)))); (case z9782k => rfl); (case z9782u => first | ke_room | ktr_room); intro b' hb'))))
  k_with "compareOp Lt ref ref" =>
    fail_if_success (k_extra "off L125")
    ((k_here; (fail_if_success (fail_if_success (first | (have hM9 : Mark4 := by assumption) | fail))); (with_reducible show wpAny _ _ (compareOp CmpOp.Lt (Value.ref _) (Value.ref _)) _ _ _); k_dflt (first | (refine' lt_made [true, false, true, true] ?z1826N ?z1826w1 ?z1826s1 ?z1826v1 ?z1826w2 ?z1826s2 ?z1826v2 ?z1826k ?z1826u ?_; (case z1826N => k_asm); (case z1826w1 => k_upd); (case z1826s1 => rfl); (case z1826w2 => k_upd); (case z1826s2 => rfl); (case z1826v1 => exact VI.tup (by k_upd) (VI.int (VI.tup (by k_upd) (VI.tup (by k_upd) VI.nil)))); (case z1826v2 => exact VI.tup (by k_upd) (VI.int (VI.tup (by k_upd) (VI.tup (by k_upd) VI.nil)))); (case z1826k => rfl); (case z1826u => first | ke_room | ktr_room); intro b' hb'))))
  k_with "compareOp NotEq ref ref" =>
    fail_if_success (k_extra "off L125")
    ((k_here; (fail_if_success (fail_if_success (first | (have hM9 : Mark4 := by assumption) | fail))); (with_reducible show wpAny _ _ (compareOp CmpOp.NotEq (Value.ref _) (Value.ref _)) _ _ _); k_dflt (first | (refine' ne_self [true, false] ?z1703N ?z1703w1 ?z1703s1 ?z1703v1 ?z1703w2 ?z1703s2 ?z1703v2 ?z1703u ?_; (case z1703N => k_asm); (case z1703w1 => k_upd); (case z1703s1 => rfl); (case z1703w2 => k_upd); (case z1703s2 => rfl); (case z1703v1 => exact VI.tup (by k_upd) (VI.int VI.nil)); (case z1703v2 => exact VI.tup (by k_upd) (VI.int VI.nil)); (case z1703u => first | ke_room | ktr_room)) | (refine' ne_self [true, true] ?z1703N ?z1703w1 ?z1703s1 ?z1703v1 ?z1703w2 ?z1703s2 ?z1703v2 ?z1703u ?_; (case z1703N => k_asm); (case z1703w1 => k_upd); (case z1703s1 => rfl); (case z1703w2 => k_upd); (case z1703s2 => rfl); (case z1703v1 => exact VI.tup (by k_upd) (VI.tup (by k_upd) VI.nil)); (case z1703v2 => exact VI.tup (by k_upd) (VI.tup (by k_upd) VI.nil)); (case z1703u => first | ke_room | ktr_room)))))
  k_with "call ref" =>
    fail_if_success (k_extra "off L125")
    ((k_here; (fail_if_success (fail_if_success (first | (have hM9 : Mark6 := by assumption) | fail))); (with_reducible show wpAny _ _ (call (Value.ref (k_addr% "is_from_same_port")) [Value.ref _, Value.ref _]) _ _ _); k_dflt (refine' samep6 _ _ _ _ _ _ _ _ _ _ _ _ _ _ _ _ _ _ _ _ _ _ _ _ _ _ _ _ _ _ _ _ _ _ _ _ _ _ _ _ _ _ _ _ _ _ _ _ _ _ _ _ _ _ _ _ _ _ _ _ _ _ _ _ _ _ _ _ ?z4554cB ?z4554cF ?z4554cX ?z4554cN ?z4554cT ?z4554cK ?z4554h1 ?z4554h2 ?z4554h3 ?z4554h4 ?z4554h5 ?z4554h6 ?z4554h7 ?z4554h8 ?z4554h9 ?z4554h10 ?z4554cd ?z4554cu (fun v' h' tk' hv' F' N' => ?_); (case z4554cF => k_asm); (case z4554cB => k_asm); (case z4554cX => k_asm); (case z4554cN => k_asm); (case z4554cT => k_asm); (case z4554cK => first | exact rfl | assumption); (case z4554h1 => (refine' mem_pick ?z4554w9; (case z4554w9 => k_upd))); (case z4554h2 => (refine' mem_pick ?z4554w9; (case z4554w9 => k_upd))); (case z4554h3 => (refine' mem_pick ?z4554w9; (case z4554w9 => k_upd))); (case z4554h4 => (refine' mem_pick ?z4554w9; (case z4554w9 => k_upd))); (case z4554h5 => (refine' mem_pick ?z4554w9; (case z4554w9 => k_upd))); (case z4554h6 => (refine' mem_pick ?z4554w9; (case z4554w9 => k_upd))); (case z4554h7 => (refine' mem_pick ?z4554w9; (case z4554w9 => k_upd))); (case z4554h8 => (refine' mem_pick ?z4554w9; (case z4554w9 => k_upd))); (case z4554h9 => (refine' mem_pick ?z4554w9; (case z4554w9 => k_upd))); (case z4554h10 => (refine' mem_pick ?z4554w9; (case z4554w9 => k_upd))); (case z4554cd => ktr_room); (case z4554cu => ktr_room); all_goals (try dsimp only))))
  k_with "call ref" =>
    fail_if_success (k_extra "off L125")
    ((k_here; (fail_if_success (fail_if_success (first | (have hM9 : Mark6 := by assumption) | fail))); (with_reducible show wpAny _ _ (call (Value.ref (k_addr% "takes_over")) [Value.ref _, Value.ref _]) _ _ _); k_dflt (refine' takes6 _ _ _ _ _ _ _ _ _ _ _ _ _ _ _ _ _ _ _ _ _ _ _ _ _ _ _ _ _ _ _ _ _ _ _ _ _ _ _ _ _ _ _ _ _ _ _ _ _ _ _ _ _ _ _ _ _ _ _ _ _ _ _ _ _ _ _ _ ?z9639cB ?z9639cF ?z9639cX ?z9639cN ?z9639cT ?z9639cK ?z9639h1 ?z9639h2 ?z9639h3 ?z9639h4 ?z9639h5 ?z9639h6 ?z9639h7 ?z9639h8 ?z9639h9 ?z9639h10 ?z9639cd ?z9639cu (fun v' h' tk' hv' F' N' => ?_); (case z9639cF => k_asm); (case z9639cB => k_asm); (case z9639cX => k_asm); (case z9639cN => k_asm); (case z9639cT => k_asm); (case z9639cK => first | exact rfl | assumption); (case z9639h1 => (refine' mem_pick ?z9639w9; (case z9639w9 => k_upd))); (case z9639h2 => (refine' mem_pick ?z9639w9; (case z9639w9 => k_upd))); (case z9639h3 => (refine' mem_pick ?z9639w9; (case z9639w9 => k_upd))); (case z9639h4 => (refine' mem_pick ?z9639w9; (case z9639w9 => k_upd))); (case z9639h5 => (refine' mem_pick ?z9639w9; (case z9639w9 => k_upd))); (case z9639h6 => (refine' mem_pick ?z9639w9; (case z9639w9 => k_upd))); (case z9639h7 => (refine' mem_pick ?z9639w9; (case z9639w9 => k_upd))); (case z9639h8 => (refine' mem_pick ?z9639w9; (case z9639w9 => k_upd))); (case z9639h9 => (refine' mem_pick ?z9639w9; (case z9639w9 => k_upd))); (case z9639h10 => (refine' mem_pick ?z9639w9; (case z9639w9 => k_upd))); (case z9639cd => ktr_room); (case z9639cu => ktr_room); all_goals (try dsimp only))))
  k_with "call ref" =>
    fail_if_success (k_extra "off L125")
    ((k_here; (fail_if_success (fail_if_success (first | (have hM9 : Mark6 := by assumption) | fail))); (with_reducible show wpAny _ _ (call (Value.ref (k_addr% "with_teller")) [Value.ref _, Value.ref _, Value.ref _]) _ _ _); k_dflt (refine' teller6 _ _ _ _ _ _ _ _ _ _ _ _ _ _ _ _ _ _ _ _ _ _ _ _ _ _ _ _ _ _ _ _ _ _ _ _ _ _ _ _ _ _ _ _ _ ?z7632cB ?z7632cF ?z7632cX ?z7632cN ?z7632cT ?z7632cK ?z7632h1 ?z7632h2 ?z7632h3 ?z7632h4 ?z7632h5 ?z7632cd ?z7632cu (fun D' h' tk' F' N' => ?_); (case z7632cF => k_asm); (case z7632cB => k_asm); (case z7632cX => k_asm); (case z7632cN => k_asm); (case z7632cT => k_asm); (case z7632cK => first | exact rfl | assumption); (case z7632h1 => (refine' mem_pick ?z7632w9; (case z7632w9 => k_upd))); (case z7632h2 => (refine' mem_pick ?z7632w9; (case z7632w9 => k_upd))); (case z7632h3 => (refine' mem_pick ?z7632w9; (case z7632w9 => k_upd))); (case z7632h4 => (refine' mem_pick ?z7632w9; (case z7632w9 => k_upd))); (case z7632h5 => (refine' mem_pick ?z7632w9; (case z7632w9 => k_upd))); (case z7632cd => ktr_room); (case z7632cu => ktr_room); all_goals (try dsimp only))))
  k_with "compareOp NotEq ref ref" =>
    fail_if_success (k_extra "off L125")
    ((k_here; (fail_if_success (fail_if_success (first | (have hM9 : Mark6 := by assumption) | fail))); (with_reducible show wpAny _ _ (compareOp CmpOp.NotEq (Value.ref _) (Value.ref _)) _ _ _); k_dflt (first | (refine' ne_made [true, false, true, false, true, true] ?z5945N ?z5945w1 ?z5945s1 ?z5945v1 ?z5945w2 ?z5945s2 ?z5945v2 ?z5945k ?z5945u ?_; (case z5945N => k_asm); (case z5945w1 => k_upd); (case z5945s1 => rfl); (case z5945w2 => k_upd); (case z5945s2 => rfl); (case z5945v1 => exact VI.tup (by k_upd) (VI.int (VI.tup (by k_upd) (VI.int (VI.tup (by k_upd) (VI.tup (by k_upd) VI.nil)))))); (case z5945v2 => exact VI.tup (by k_upd) (VI.int (VI.tup (by k_upd) (VI.int (VI.tup (by k_upd) (VI.tup (by k_upd) VI.nil)))))); (case z5945k => rfl); (case z5945u => first | ke_room | ktr_room); intro b' hb'))))
  k_with "compareOp Lt ref ref" =>
    fail_if_success (k_extra "off L125")
    ((k_here; (fail_if_success (fail_if_success (first | (have hM9 : Mark6 := by assumption) | fail))); (with_reducible show wpAny _ _ (compareOp CmpOp.Lt (Value.ref _) (Value.ref _)) _ _ _); k_dflt (first | (refine' lt_made [true, false, true, false, true, true] ?z1309N ?z1309w1 ?z1309s1 ?z1309v1 ?z1309w2 ?z1309s2 ?z1309v2 ?z1309k ?z1309u ?_; (case z1309N => k_asm); (case z1309w1 => k_upd); (case z1309s1 => rfl); (case z1309w2 => k_upd); (case z1309s2 => rfl); (case z1309v1 => exact VI.tup (by k_upd) (VI.int (VI.tup (by k_upd) (VI.int (VI.tup (by k_upd) (VI.tup (by k_upd) VI.nil)))))); (case z1309v2 => exact VI.tup (by k_upd) (VI.int (VI.tup (by k_upd) (VI.int (VI.tup (by k_upd) (VI.tup (by k_upd) VI.nil)))))); (case z1309k => rfl); (case z1309u => first | ke_room | ktr_room); intro b' hb'))))
  k_with "compareOp NotEq ref ref" =>
    fail_if_success (k_extra "off L125")
    ((k_here; (fail_if_success (fail_if_success (first | (have hM9 : Mark6 := by assumption) | fail))); (with_reducible show wpAny _ _ (compareOp CmpOp.NotEq (Value.ref _) (Value.ref _)) _ _ _); k_dflt (first | (refine' ne_self [true, false, true, false] ?z3899N ?z3899w1 ?z3899s1 ?z3899v1 ?z3899w2 ?z3899s2 ?z3899v2 ?z3899u ?_; (case z3899N => k_asm); (case z3899w1 => k_upd); (case z3899s1 => rfl); (case z3899w2 => k_upd); (case z3899s2 => rfl); (case z3899v1 => exact VI.tup (by k_upd) (VI.int (VI.tup (by k_upd) (VI.int VI.nil)))); (case z3899v2 => exact VI.tup (by k_upd) (VI.int (VI.tup (by k_upd) (VI.int VI.nil)))); (case z3899u => first | ke_room | ktr_room)) | (refine' ne_self [true, true] ?z3899N ?z3899w1 ?z3899s1 ?z3899v1 ?z3899w2 ?z3899s2 ?z3899v2 ?z3899u ?_; (case z3899N => k_asm); (case z3899w1 => k_upd); (case z3899s1 => rfl); (case z3899w2 => k_upd); (case z3899s2 => rfl); (case z3899v1 => exact VI.tup (by k_upd) (VI.tup (by k_upd) VI.nil)); (case z3899v2 => exact VI.tup (by k_upd) (VI.tup (by k_upd) VI.nil)); (case z3899u => first | ke_room | ktr_room)))))
  k_with "McL" =>
    fail_if_success (k_extra "off L125")
    (first | (with_reducible refine McL.done ?_) | ((first | (with_reducible show McL _ _ _ _ _ _ _ _ _ _ _ _ _ _ (_ :: _) _ _) | (fail_if_success (k_extra "mcl guard"))); with_unfolding_all first
      | (refine McL.turn ?_; intro I' oI' C' oC' D' m' h' tk' E' hC' hasg' F' N' off' ne'; (try dsimp only at hasg'); (first | (obtain ⟨t9', u9', ha9', hb9'⟩ := hasg') | (obtain ⟨t9', ha9'⟩ := hasg') | skip))
      | refine McL.done ?_))
  k_with "McD" =>
    fail_if_success (k_extra "off L125")
    (first | (with_reducible refine McD.done ?_) | (with_unfolding_all first
      | (refine McD.turn ?_; intro I' oI' C' oC' D' oD' m' h' tk' E' hC' hasg' F' N' off' ne'; (try dsimp only at hasg'); (first | (obtain ⟨t9', u9', ha9', hb9'⟩ := hasg') | (obtain ⟨t9', ha9'⟩ := hasg') | skip))
      | refine McD.done ?_))
  k_with "my k_lt" =>
    fail_if_success (k_extra "off L125")
    skip
  k_with "mem9" =>
    fail_if_success (k_extra "off L125")
    (first | ((with_reducible show Has _ (_ :: _)); first | exact Has.head | exact Has.tail (by k_extra "mem9")) | exact Has.of (by assumption))
  k_with "my k_ne" =>
    fail_if_success (k_extra "off L125")
    ((try dsimp only); first | assumption | exact Ne.symm (by assumption) | exact neP (by assumption) (by k_extra "mem9") | exact neQ (by assumption) (by k_extra "mem9"))
  k_with "newList" =>
    fail_if_success (k_extra "off L125")
    (k_here; k_dflt (refine' newList_L ?nl1 ?nl2 ?_; (case nl1 => k_asm); (case nl2 => k_asm); k_whole); intro l' h' F' o9 N' l1; (try k_lt l1); (try k_sweep))
  k_with "newTuple" =>
    fail_if_success (k_extra "off L125")
    (k_here; k_dflt (refine' newTuple_L ?nt1 ?nt2 ?_ ?nt3; (case nt1 => k_asm); (case nt2 => k_asm); (case nt3 => kmk_size)); intro D' h' F' o9 N' l1; (try k_lt l1); (try k_sweep))
  trivial
theorem vr_false1 {v : Bool} {x x' y y' : Int} (hv : v = (decide (x = x') && decide (y = y'))) (hx : x = x') (a : (v != (y == y')) = true) : false = true := by
  subst hv hx; by_cases q : y = y' <;> simp [q] at a
theorem vr_false2 {v : Bool} {x x' y y' : Int} (hv : v = (decide (x = x') && decide (y = y'))) (hx : x ≠ x') (a : (v != (x == x')) = true) : false = true := by
  subst hv; simp [hx] at a
theorem vr_lt {v b l e p : Bool} (hv : v = (l || (!e && p))) (hb : b = l) (a : b = true) : (v == b) = true := by subst hv hb; rw [a]; rfl
theorem vr_eq {v c b l e p : Bool} (hv : v = (l || (!e && p))) (hl : c = l) (al : c = false) (hb : b = e) (a : b = true) : (v == !b) = true := by subst hl; subst hb; subst hv; rw [al, a]; rfl
theorem vr_same {v c d l e : Bool} {x x' y y' : Int} (hv : v = (l || (!e && (decide (x = x') && decide (y = y'))))) (hl : c = l) (al : c = false) (he : d = e) (ae : d = false) (hx : x = x') : (v == (y == y')) = true := by
  subst hl; subst he; subst hv; rw [al, ae]; subst hx; by_cases q : y = y' <;> simp [q]
theorem vr_other {v c d l e : Bool} {x x' y y' : Int} (hv : v = (l || (!e && (decide (x = x') && decide (y = y'))))) (hl : c = l) (al : c = false) (he : d = e) (ae : d = false) (hx : x ≠ x') : (v == (x == x')) = true := by
  subst hl; subst he; subst hv; rw [al, ae]; simp [hx]
theorem ret_true {Q : Value → Shared → Prop} {b : Bool} {s : Shared} (e : b = true) (h : Q (.bool true) s) : Q (.bool b) s := e ▸ h
theorem vright_in {w : World} {p : Program} {loose : List Str} {mean : ExcName → Option Value} {mg mb : Str → Option Value}
  (κ : Cx) (A₀ : Around) (base h₀ : Heap) (m : Str → Option Value) (s : Shared) (Q E : Value → Shared → Prop)
  (rest : Led) (src : Addr) (x y : Int) (tx ty : Tok) (n : Nat)
  (B : Below A₀ base κ.outer h₀) (F : Fr h₀ κ.L s.heap m) (X : (KH w.params).In h₀) (N : News h₀ κ.L s.heap ((src, pool x y tx ty n) :: rest))
  (T : Top p loose mean mg mb h₀) (hk : κ.cs.kind = .function) (hne : ∀ p ∈ rest, p.1 ≠ src) (hp : 0 ≤ x ∧ 0 ≤ y ∧ y < 2147483647)
  (hd : κ.dp + 60 < recursionLimit) (hu : κ.un + 800 < cLine)
  (ret : ∀ (x' y' : Int) (tx' ty' : Tok) (h' : Heap) (tk' : Nat), Fr h₀ κ.L h' m → News h₀ κ.L h' ((src, pool x' y' tx' ty' n) :: rest) → 0 ≤ x' ∧ 0 ≤ y' ∧ y' < 2147483647 → Q (.bool true) { s with heap := h', toks := tk' }):
  wpAny (model prg w) (T1 κ) (call (.ref (k_addr% "_law_vectors_right")) [.ref src]) Q E s := (by exact use_of : Use _ (by
 first
 | (
  refine wpAny_call ?_
  k_dflt k_enter
  k_steps
  all_goals (refine' ret_true ?e7 (ret _ _ _ _ _ _ ?f7 ?n7 ?p7); (case e7 => first | exact vr_lt (by assumption) (by assumption) (by assumption) | exact vr_eq (by assumption) (by assumption) (by assumption) (by assumption) (by assumption) | exact vr_same (by assumption) (by assumption) (by assumption) (by assumption) (by assumption) (by assumption) | exact vr_other (by assumption) (by assumption) (by assumption) (by assumption) (by assumption) (by assumption) | exact vr_false1 (by assumption) (by assumption) (by assumption) | exact vr_false2 (by assumption) (by assumption) (by assumption)); (case f7 => k_asm); (case n7 => refine news_pick (by assumption) ?_; (repeat (first | exact Picks.self | (refine' Picks.cons ?w ?_; (case w => k_upd)) | refine' Picks.up ?_))); (case p7 => assumption)))
 | fail))
theorem vright {w : World} {p : Program} {loose : List Str} {mean : ExcName → Option Value} {mg mb : Str → Option Value}
  (dp un : Nat) (gd : Option (List Code)) (cn : Str) (cs : Scope) (a : Addr) (ccd : Value) (cl : List (Str × Addr)) (outer : List Env) (A₀ : Around) (base h₀ : Heap) (L : Addr) (m : Str → Option Value) (s : Shared) (Q E : Value → Shared → Prop)
  (rest : Led) (src : Addr) (x y : Int) (tx ty : Tok) (n : Nat)
  (B : Below A₀ base outer h₀) (F : Fr h₀ L s.heap m) (X : (KH w.params).In h₀) (N : News h₀ L s.heap ((src, pool x y tx ty n) :: rest))
  (T : Top p loose mean mg mb h₀) (hk : cs.kind = .function) (hne : ∀ p ∈ rest, p.1 ≠ src) (hp : 0 ≤ x ∧ 0 ≤ y ∧ y < 2147483647)
  (hd : dp + 60 < recursionLimit) (hu : un + 800 < cLine)
  (ret : ∀ (x' y' : Int) (tx' ty' : Tok) (h' : Heap) (tk' : Nat), Fr h₀ L h' m → News h₀ L h' ((src, pool x' y' tx' ty' n) :: rest) → 0 ≤ x' ∧ 0 ≤ y' ∧ y' < 2147483647 → Q (.bool true) { s with heap := h', toks := tk' }):
  wpAny (model prg w) (ktrTop dp un gd cn cs L a ccd cl outer) (call (.ref (k_addr% "_law_vectors_right")) [.ref src]) Q E s :=
  vright_in ⟨dp, un, gd, cn, cs, L, a, ccd, cl, outer⟩ A₀ base h₀ m s Q E rest src x y tx ty n B F X N T hk hne hp hd hu ret
theorem wdoL125 : True := by
  k_with "off L125" => skip
  trivial
end
section
set_option maxHeartbeats 4000000
theorem oneD_any {w : World} {p : Program} {loose : List Str} {mean : ExcName → Option Value} {mg mb : Str → Option Value}
  {dp un : Nat} {gd : Option (List Code)} {cn : Str} {cs : Scope} {a : Addr} {ccd : Value} {cl : List (Str × Addr)} {outer : List Env} {A₀ : Around} {base h₀ : Heap} {L : Addr} {m : Str → Option Value} {s : Shared} {Q E : Value → Shared → Prop}
  {src th : Addr} {x y : Int} {tx ty : Tok} {n n1 : Nat} {vs : List Value} {all rest r' : Led}
  (F : Fr h₀ L s.heap m) (B : Below A₀ base outer h₀) (X : (KH w.params).In h₀) (N : News h₀ L s.heap all) (wo : Without src (pool x y tx ty n) all rest) (hm : Without th (listOf vs.toArray n1) rest r') (hne : ∀ p ∈ rest, p.1 ≠ src)
  (T : Top p loose mean mg mb h₀) (hk : cs.kind = .function) (hp : 0 ≤ x ∧ 0 ≤ y ∧ y < 2147483647) (hl1 : 1 ≤ vs.length) (hl2 : vs.length ≤ 1000)
  (hd : dp + 10 < recursionLimit) (hu : un + 100 < cLine)
  (ret : ∀ (v : Value) (x' y' : Int) (tx' ty' : Tok) (h' : Heap) (tk' : Nat), v ∈ vs → Fr h₀ L h' m → News h₀ L h' ((src, pool x' y' tx' ty' n) :: r') → 0 ≤ x' ∧ 0 ≤ y' ∧ y' < 2147483647 → (∀ p ∈ r', p.1 ≠ src) → Q v { s with heap := h', toks := tk' }) :
  wpAny (model prg w) (ktrTop dp un gd cn cs L a ccd cl outer) (call (.ref (k_addr% "_law_one")) [.ref src, .ref th]) Q E s :=
  one_spec dp un gd cn cs a ccd cl outer A₀ base h₀ L m s Q E rest src th x y tx ty n n1 vs B F X (fun p hp => N p (wo.sub p hp)) T hk (mem_pick hm) hne hp hl1 hl2 hd hu (fun v x' y' tx' ty' h' tk' hv' F' N' P' => by
    have N2 : News h₀ L h' ((src, pool x' y' tx' ty' n) :: r') := fun q hq => N' q (by rcases List.mem_cons.mp hq with rfl | hq; exact .head _; exact .tail _ (hm.sub q (.tail _ hq)))
    have ne : ∀ p ∈ r', p.1 ≠ src := fun p hp => hne p (hm.sub p (.tail _ hp))
    exact ret v x' y' tx' ty' h' tk' hv' F' N2 P' ne)
theorem oneD_int {w : World} {p : Program} {loose : List Str} {mean : ExcName → Option Value} {mg mb : Str → Option Value}
  {dp un : Nat} {gd : Option (List Code)} {cn : Str} {cs : Scope} {a : Addr} {ccd : Value} {cl : List (Str × Addr)} {outer : List Env} {A₀ : Around} {base h₀ : Heap} {L : Addr} {m : Str → Option Value} {s : Shared} {Q E : Value → Shared → Prop}
  {src th : Addr} {x y : Int} {tx ty : Tok} {n n1 : Nat} {vs : List Value} {all rest r' : Led}
  (F : Fr h₀ L s.heap m) (B : Below A₀ base outer h₀) (X : (KH w.params).In h₀) (N : News h₀ L s.heap all) (wo : Without src (pool x y tx ty n) all rest) (hm : Without th (listOf vs.toArray n1) rest r') (hne : ∀ p ∈ rest, p.1 ≠ src)
  (T : Top p loose mean mg mb h₀) (hk : cs.kind = .function) (hp : 0 ≤ x ∧ 0 ≤ y ∧ y < 2147483647) (hl1 : 1 ≤ vs.length) (hl2 : vs.length ≤ 1000) (hv : AllInt vs)
  (hd : dp + 10 < recursionLimit) (hu : un + 100 < cLine)
  (ret : ∀ (k : Int) (t : Tok) (x' y' : Int) (tx' ty' : Tok) (h' : Heap) (tk' : Nat), Fr h₀ L h' m → News h₀ L h' ((src, pool x' y' tx' ty' n) :: r') → 0 ≤ x' ∧ 0 ≤ y' ∧ y' < 2147483647 → (∀ p ∈ r', p.1 ≠ src) → Q (.int k t) { s with heap := h', toks := tk' }) :
  wpAny (model prg w) (ktrTop dp un gd cn cs L a ccd cl outer) (call (.ref (k_addr% "_law_one")) [.ref src, .ref th]) Q E s :=
  one_spec dp un gd cn cs a ccd cl outer A₀ base h₀ L m s Q E rest src th x y tx ty n n1 vs B F X (fun p hp => N p (wo.sub p hp)) T hk (mem_pick hm) hne hp hl1 hl2 hd hu (fun v x' y' tx' ty' h' tk' hv' F' N' P' => by
    have N2 : News h₀ L h' ((src, pool x' y' tx' ty' n) :: r') := fun q hq => N' q (by rcases List.mem_cons.mp hq with rfl | hq; exact .head _; exact .tail _ (hm.sub q (.tail _ hq)))
    have ne : ∀ p ∈ r', p.1 ≠ src := fun p hp => hne p (hm.sub p (.tail _ hp))
    obtain ⟨k, t, rfl⟩ := hv v hv'; exact ret k t x' y' tx' ty' h' tk' F' N2 P' ne)
theorem oneD_str {w : World} {p : Program} {loose : List Str} {mean : ExcName → Option Value} {mg mb : Str → Option Value}
  {dp un : Nat} {gd : Option (List Code)} {cn : Str} {cs : Scope} {a : Addr} {ccd : Value} {cl : List (Str × Addr)} {outer : List Env} {A₀ : Around} {base h₀ : Heap} {L : Addr} {m : Str → Option Value} {s : Shared} {Q E : Value → Shared → Prop}
  {src th : Addr} {x y : Int} {tx ty : Tok} {n n1 : Nat} {vs : List Value} {all rest r' : Led}
  (F : Fr h₀ L s.heap m) (B : Below A₀ base outer h₀) (X : (KH w.params).In h₀) (N : News h₀ L s.heap all) (wo : Without src (pool x y tx ty n) all rest) (hm : Without th (listOf vs.toArray n1) rest r') (hne : ∀ p ∈ rest, p.1 ≠ src)
  (T : Top p loose mean mg mb h₀) (hk : cs.kind = .function) (hp : 0 ≤ x ∧ 0 ≤ y ∧ y < 2147483647) (hl1 : 1 ≤ vs.length) (hl2 : vs.length ≤ 1000) (hv : AllStr vs)
  (hd : dp + 10 < recursionLimit) (hu : un + 100 < cLine)
  (ret : ∀ (k : Str) (t : Tok) (x' y' : Int) (tx' ty' : Tok) (h' : Heap) (tk' : Nat), Fr h₀ L h' m → News h₀ L h' ((src, pool x' y' tx' ty' n) :: r') → 0 ≤ x' ∧ 0 ≤ y' ∧ y' < 2147483647 → (∀ p ∈ r', p.1 ≠ src) → Q (.str k t) { s with heap := h', toks := tk' }) :
  wpAny (model prg w) (ktrTop dp un gd cn cs L a ccd cl outer) (call (.ref (k_addr% "_law_one")) [.ref src, .ref th]) Q E s :=
  one_spec dp un gd cn cs a ccd cl outer A₀ base h₀ L m s Q E rest src th x y tx ty n n1 vs B F X (fun p hp => N p (wo.sub p hp)) T hk (mem_pick hm) hne hp hl1 hl2 hd hu (fun v x' y' tx' ty' h' tk' hv' F' N' P' => by
    have N2 : News h₀ L h' ((src, pool x' y' tx' ty' n) :: r') := fun q hq => N' q (by rcases List.mem_cons.mp hq with rfl | hq; exact .head _; exact .tail _ (hm.sub q (.tail _ hq)))
    have ne : ∀ p ∈ r', p.1 ≠ src := fun p hp => hne p (hm.sub p (.tail _ hp))
    obtain ⟨k, t, rfl⟩ := hv v hv'; exact ret k t x' y' tx' ty' h' tk' F' N2 P' ne)
theorem oneD_ref4 {w : World} {p : Program} {loose : List Str} {mean : ExcName → Option Value} {mg mb : Str → Option Value}
  {dp un : Nat} {gd : Option (List Code)} {cn : Str} {cs : Scope} {a : Addr} {ccd : Value} {cl : List (Str × Addr)} {outer : List Env} {A₀ : Around} {base h₀ : Heap} {L : Addr} {m : Str → Option Value} {s : Shared} {Q E : Value → Shared → Prop}
  {src th d1 d2 d3 d4 : Addr} {x y : Int} {tx ty : Tok} {n n1 : Nat} {all rest r' : Led}
  (F : Fr h₀ L s.heap m) (B : Below A₀ base outer h₀) (X : (KH w.params).In h₀) (N : News h₀ L s.heap all) (wo : Without src (pool x y tx ty n) all rest) (hm : Without th (listOf #[.ref d1, .ref d2, .ref d3, .ref d4] n1) rest r') (hne : ∀ p ∈ rest, p.1 ≠ src)
  (T : Top p loose mean mg mb h₀) (hk : cs.kind = .function) (hp : 0 ≤ x ∧ 0 ≤ y ∧ y < 2147483647)
  (hd : dp + 10 < recursionLimit) (hu : un + 100 < cLine)
  (ra : ∀ (x' y' : Int) (tx' ty' : Tok) (h' : Heap) (tk' : Nat), Fr h₀ L h' m → News h₀ L h' ((src, pool x' y' tx' ty' n) :: r') → 0 ≤ x' ∧ 0 ≤ y' ∧ y' < 2147483647 → (∀ p ∈ r', p.1 ≠ src) → Q (.ref d1) { s with heap := h', toks := tk' }) (rb : ∀ (x' y' : Int) (tx' ty' : Tok) (h' : Heap) (tk' : Nat), Fr h₀ L h' m → News h₀ L h' ((src, pool x' y' tx' ty' n) :: r') → 0 ≤ x' ∧ 0 ≤ y' ∧ y' < 2147483647 → (∀ p ∈ r', p.1 ≠ src) → Q (.ref d2) { s with heap := h', toks := tk' }) (rc : ∀ (x' y' : Int) (tx' ty' : Tok) (h' : Heap) (tk' : Nat), Fr h₀ L h' m → News h₀ L h' ((src, pool x' y' tx' ty' n) :: r') → 0 ≤ x' ∧ 0 ≤ y' ∧ y' < 2147483647 → (∀ p ∈ r', p.1 ≠ src) → Q (.ref d3) { s with heap := h', toks := tk' }) (re : ∀ (x' y' : Int) (tx' ty' : Tok) (h' : Heap) (tk' : Nat), Fr h₀ L h' m → News h₀ L h' ((src, pool x' y' tx' ty' n) :: r') → 0 ≤ x' ∧ 0 ≤ y' ∧ y' < 2147483647 → (∀ p ∈ r', p.1 ≠ src) → Q (.ref d4) { s with heap := h', toks := tk' }) :
  wpAny (model prg w) (ktrTop dp un gd cn cs L a ccd cl outer) (call (.ref (k_addr% "_law_one")) [.ref src, .ref th]) Q E s :=
  oneD_any (vs := [.ref d1, .ref d2, .ref d3, .ref d4]) F B X N wo hm hne T hk hp (by simp) (by simp) hd hu (fun v x' y' tx' ty' h' tk' hv F' N' P' ne => by
    simp only [List.mem_cons, List.not_mem_nil, or_false] at hv
    rcases hv with rfl | rfl | rfl | rfl
    · exact ra x' y' tx' ty' h' tk' F' N' P' ne
    · exact rb x' y' tx' ty' h' tk' F' N' P' ne
    · exact rc x' y' tx' ty' h' tk' F' N' P' ne
    · exact re x' y' tx' ty' h' tk' F' N' P' ne)
theorem takeD {w : World} {p : Program} {loose : List Str} {mean : ExcName → Option Value} {mg mb : Str → Option Value}
  {dp un : Nat} {gd : Option (List Code)} {cn : Str} {cs : Scope} {a : Addr} {ccd : Value} {cl : List (Str × Addr)} {outer : List Env} {A₀ : Around} {base h₀ : Heap} {L : Addr} {m : Str → Option Value} {s : Shared} {Q E : Value → Shared → Prop}
  {src : Addr} {x y : Int} {tx ty : Tok} {n : Nat} {all rest : Led} {k : Int} {tk : Tok}
  (F : Fr h₀ L s.heap m) (B : Below A₀ base outer h₀) (X : (KH w.params).In h₀) (N : News h₀ L s.heap all) (wo : Without src (pool x y tx ty n) all rest) (hne : ∀ p ∈ rest, p.1 ≠ src)
  (T : Top p loose mean mg mb h₀) (hk : cs.kind = .function) (hp : 0 ≤ x ∧ 0 ≤ y ∧ y < 2147483647) (hk1 : 1 ≤ k) (hk2 : k ≤ 281474976710656)
  (hd : dp + 1 < recursionLimit) (hu : un + 8 < cLine)
  (ret : ∀ (d x' y' : Int) (t tx' ty' : Tok) (h' : Heap) (tk' : Nat), Fr h₀ L h' m → News h₀ L h' ((src, pool x' y' tx' ty' n) :: rest) → 0 ≤ d → d < k → 0 ≤ x' ∧ 0 ≤ y' ∧ y' < 2147483647 → (∀ p ∈ rest, p.1 ≠ src) → Q (.int d t) { s with heap := h', toks := tk' }) :
  wpAny (model prg w) (ktrTop dp un gd cn cs L a ccd cl outer) (call (.ref 164) [.ref src, .int k tk]) Q E s :=
  take_at F B X N wo hne T hk hp hk1 hk2 hd hu fun d x' y' t tx' ty' h' tk' F' N' a b P' => ret d x' y' t tx' ty' h' tk' F' N' a b P' hne
theorem takeD7 {w : World} {p : Program} {loose : List Str} {mean : ExcName → Option Value} {mg mb : Str → Option Value}
  {dp un : Nat} {gd : Option (List Code)} {cn : Str} {cs : Scope} {a : Addr} {ccd : Value} {cl : List (Str × Addr)} {outer : List Env} {A₀ : Around} {base h₀ : Heap} {L : Addr} {m : Str → Option Value} {s : Shared} {Q E : Value → Shared → Prop}
  {src : Addr} {x y : Int} {tx ty : Tok} {n : Nat} {all rest : Led} {tk : Tok}
  (F : Fr h₀ L s.heap m) (B : Below A₀ base outer h₀) (X : (KH w.params).In h₀) (N : News h₀ L s.heap all) (wo : Without src (pool x y tx ty n) all rest) (hne : ∀ p ∈ rest, p.1 ≠ src)
  (T : Top p loose mean mg mb h₀) (hk : cs.kind = .function) (hp : 0 ≤ x ∧ 0 ≤ y ∧ y < 2147483647)
  (hd : dp + 1 < recursionLimit) (hu : un + 8 < cLine)
  (ret : ∀ (d : Int), d = 0 ∨ d = 1 ∨ d = 2 ∨ d = 3 ∨ d = 4 ∨ d = 5 ∨ d = 6 → ∀ (x' y' : Int) (t tx' ty' : Tok) (h' : Heap) (tk' : Nat), Fr h₀ L h' m → News h₀ L h' ((src, pool x' y' tx' ty' n) :: rest) → 0 ≤ x' ∧ 0 ≤ y' ∧ y' < 2147483647 → (∀ p ∈ rest, p.1 ≠ src) → Q (.int d t) { s with heap := h', toks := tk' }) :
  wpAny (model prg w) (ktrTop dp un gd cn cs L a ccd cl outer) (call (.ref 164) [.ref src, .int 7 tk]) Q E s :=
  take_at F B X N wo hne T hk hp (by decide) (by decide) hd hu fun d x' y' t tx' ty' h' tk' F' N' a b P' => ret d (by first | exact cases7 (by assumption) (by assumption) | omega) x' y' t tx' ty' h' tk' F' N' P' hne
end
section
set_option maxHeartbeats 4000000
section lam
open PySem PySem.Spec PySem.Calls
theorem Without.updF {a : Addr} {o : Obj} {l r : Led} (w : Without a o l r) : (∀ p ∈ r, p.1 ≠ a) → ∃ g, UpdF a o l g ∧ ∀ o', ∀ p ∈ (a, o') :: r, p ∈ g o' := by
  induction w with
  | head => exact fun h => ⟨_, UpdF.head h, fun o' p hp => hp⟩
  | tail w ih =>
    intro h
    obtain ⟨g, u, k⟩ := ih fun p hp => h p (.tail _ hp)
    refine ⟨_, UpdF.tail (h _ (.head _)) u, fun o' p hp => ?_⟩
    rcases List.mem_cons.mp hp with rfl | hp
    · exact .tail _ (k o' _ (.head _))
    · rcases List.mem_cons.mp hp with rfl | hp
      · exact .head _
      · exact .tail _ (k o' p (.tail _ hp))
/-- a code record in a ledger -/
def RecIn (r : Led) (q : Str) (c : Addr) : Prop := ∃ oc vs t, (c, oc) ∈ r ∧ oc.data = .fields vs ∧ vs[1]? = some (.str q t)
theorem RecIn.mono {r r' : Led} {q : Str} {c : Addr} (h : RecIn r q c) (hs : ∀ p ∈ r, p ∈ r') : RecIn r' q c := by
  obtain ⟨oc, vs, t, a, b, d⟩ := h
  exact ⟨oc, vs, t, hs _ a, b, d⟩
/-- the table of the lambdas' code: the first of them, the second one, by their places -/
def TabIn (p1 p2 : Pos) (q : Str) (r : Led) (ps : Array Value) : Prop :=
  ps = #[] ∨ (∃ c1, ps = #[rawInt p1.line, rawInt p1.col, .ref c1] ∧ RecIn r q c1) ∨
    ∃ c1 c2, ps = #[rawInt p1.line, rawInt p1.col, .ref c1, rawInt p2.line, rawInt p2.col, .ref c2] ∧ RecIn r q c1 ∧ RecIn r q c2
def TabIn1 (p1 p2 : Pos) (q : Str) (r : Led) (ps : Array Value) : Prop :=
  (∃ c1, ps = #[rawInt p1.line, rawInt p1.col, .ref c1] ∧ RecIn r q c1) ∨
    ∃ c1 c2, ps = #[rawInt p1.line, rawInt p1.col, .ref c1, rawInt p2.line, rawInt p2.col, .ref c2] ∧ RecIn r q c1 ∧ RecIn r q c2
theorem TabIn1.up {p1 p2 : Pos} {q : Str} {r r' : Led} {ps : Array Value} (h : TabIn1 p1 p2 q r ps) (hs : ∀ p ∈ r, p ∈ r') : TabIn p1 p2 q r' ps := by
  rcases h with ⟨c1, e, a⟩ | ⟨c1, c2, e, a, b⟩
  · exact .inr (.inl ⟨c1, e, a.mono hs⟩)
  · exact .inr (.inr ⟨c1, c2, e, a.mono hs, b.mono hs⟩)
theorem TabIn1.mono {p1 p2 : Pos} {q : Str} {r r' : Led} {ps : Array Value} (h : TabIn1 p1 p2 q r ps) (hs : ∀ p ∈ r, p ∈ r') : TabIn1 p1 p2 q r' ps := by
  rcases h with ⟨c1, e, a⟩ | ⟨c1, c2, e, a, b⟩
  · exact .inl ⟨c1, e, a.mono hs⟩
  · exact .inr ⟨c1, c2, e, a.mono hs, b.mono hs⟩
section
variable {M : Model} {A : Around} {E : Value → Shared → Prop} {s : Shared} {h₀ : Heap} {L a c P : Addr} {m mg mb : Str → Option Value} {cn : Str} {cs : Scope} {ccd : Value} {cl : List (Str × Addr)} {news r : Led}
  {p : Program} {loose : List Str} {mean : ExcName → Option Value} {name qual : Str} {params : Arguments} {body : PySem.Expr} {scope : Scope} {ps : Array Value} {pos p1 p2 : Pos} {firstLine : Nat} {clos : List (Str × Addr)}
theorem lam_new {Q : Value → Shared → Prop} (F : Fr h₀ L s.heap m) (N : News h₀ L s.heap news) (T : Top p loose mean mg mb h₀) (C : CodeHd h₀ c P) (hcd : ccd = .ref c) (wt : Without P (tabObj ps) news r) (hr : ∀ q ∈ r, q.1 ≠ P) (ht : TriplesOk ps.toList) (hnf : codeAmong pos ps.toList = none)
    (hcl : closureFor scope (envX cn cs L a ccd cl) = pure clos)
    (h : ∀ f c' oc ctv h' tk, Fr h₀ L h' m → News h₀ L h' ((f, kla_obj name qual params body scope clos ((mg "__name__").getD .none) c' ctv) :: (c', oc) :: (P, tabObj (ps ++ #[rawInt pos.line, rawInt pos.col, .ref c'])) :: r) →
      RecIn [(c', oc)] qual c' → c' ≠ P → f ≠ P → Q (.ref f) { s with heap := h', toks := tk }) :
    wpAny M A (makeFunction name qual params (.expr body) scope (envX cn cs L a ccd cl) [] [] [] pos firstLine) Q E s := by
  obtain ⟨g, U, hg⟩ := wt.updF hr
  refine kla_nest F N T C hcd U ht hnf hcl fun f c' oc vs t ctv h' tk F' N' d1 d2 l1 l2 => ?_
  have lP : @LT.lt Nat _ P c' := l1 _ (mem_pick wt)
  refine h f c' oc ctv h' tk F' (fun q hq => N' q ?_) ⟨oc, vs, t, .head _, d1, d2⟩ (Nat.ne_of_gt lP) (Nat.ne_of_gt (Nat.lt_trans lP l2))
  rcases List.mem_cons.mp hq with rfl | hq
  · exact .head _
  · rcases List.mem_cons.mp hq with rfl | hq
    · exact .tail _ (.head _)
    · exact .tail _ (.tail _ (hg _ q hq))
theorem lam_old {Q : Value → Shared → Prop} {c' : Addr} (F : Fr h₀ L s.heap m) (N : News h₀ L s.heap news) (T : Top p loose mean mg mb h₀) (C : CodeHd h₀ c P) (hcd : ccd = .ref c) (wt : Without P (tabObj ps) news r) (ht : TriplesOk ps.toList) (hf : codeAmong pos ps.toList = some (.ref c'))
    (hcl : closureFor scope (envX cn cs L a ccd cl) = pure clos)
    (h : ∀ f ctv h' tk, Fr h₀ L h' m → News h₀ L h' ((f, kla_obj name qual params body scope clos ((mg "__name__").getD .none) c' ctv) :: (P, tabObj ps) :: r) → f ≠ P → Q (.ref f) { s with heap := h', toks := tk }) :
    wpAny M A (makeFunction name qual params (.expr body) scope (envX cn cs L a ccd cl) [] [] [] pos firstLine) Q E s :=
  kla_hit F N T C hcd (mem_pick wt) ht hf hcl fun f ctv h' tk F' N' l1 => h f ctv h' tk F' (fun q hq => N' q (by
    rcases List.mem_cons.mp hq with rfl | hq
    · exact .head _
    · exact .tail _ (wt.sub q hq))) (Nat.ne_of_gt (l1 _ (mem_pick wt)))
/-- the first lambda -/
theorem lam_first {Q : Value → Shared → Prop} (F : Fr h₀ L s.heap m) (N : News h₀ L s.heap news) (T : Top p loose mean mg mb h₀) (C : CodeHd h₀ c P) (hcd : ccd = .ref c) (wt : Without P (tabObj ps) news r) (hr : ∀ q ∈ r, q.1 ≠ P) {rest : Led} (hrest : ∀ q ∈ rest, q ∈ r) (St : TabIn p1 p2 qual rest ps)
    (hcl : closureFor scope (envX cn cs L a ccd cl) = pure clos)
    (h : ∀ f c' oc vs t ctv ps' h' tk, Fr h₀ L h' m → News h₀ L h' ((f, kla_obj name qual params body scope clos ((mg "__name__").getD .none) c' ctv) :: (c', oc) :: (P, tabObj ps') :: r) →
      oc.data = .fields vs → vs[1]? = some (.str qual t) → TabIn1 p1 p2 qual ((c', oc) :: rest) ps' → c' ≠ P → f ≠ P → Q (.ref f) { s with heap := h', toks := tk }) :
    wpAny M A (makeFunction name qual params (.expr body) scope (envX cn cs L a ccd cl) [] [] [] p1 firstLine) Q E s := (by exact use_of : Use _ (by
 first
 | (
  rcases St with rfl | ⟨c1, rfl, oc, vs, t, hm, hd, hv⟩ | ⟨c1, c2, rfl, ⟨oc, vs, t, hm, hd, hv⟩, R2⟩
  · refine lam_new F N T C hcd wt hr True.intro rfl hcl fun f c' oc ctv h' tk F' N' R nc nf => ?_
    obtain ⟨oc', vs, t, hm, hd, hv⟩ := R
    obtain rfl : oc' = oc := by simpa using hm
    exact h f c' oc' vs t ctv _ h' tk F' N' hd hv (.inl ⟨c', rfl, oc', vs, t, .head _, hd, hv⟩) nc nf
  · refine lam_old (c' := c1) F N T C hcd wt True.intro (by simp [codeAmong, rawInt]) hcl fun f ctv h' tk F' N' nf => ?_
    refine h f c1 oc vs t ctv _ h' tk F' (fun q hq => N' q ?_) hd hv (.inl ⟨c1, rfl, oc, vs, t, .head _, hd, hv⟩) (hr _ (hrest _ hm)) nf
    rcases List.mem_cons.mp hq with rfl | hq
    · exact .head _
    · rcases List.mem_cons.mp hq with rfl | hq
      · exact .tail _ (.tail _ (hrest _ hm))
      · exact .tail _ hq
  · refine lam_old (c' := c1) F N T C hcd wt True.intro (by simp [codeAmong, rawInt]) hcl fun f ctv h' tk F' N' nf => ?_
    refine h f c1 oc vs t ctv _ h' tk F' (fun q hq => N' q ?_) hd hv (.inr ⟨c1, c2, rfl, ⟨oc, vs, t, .head _, hd, hv⟩, R2.mono fun _ x => .tail _ x⟩) (hr _ (hrest _ hm)) nf
    rcases List.mem_cons.mp hq with rfl | hq
    · exact .head _
    · rcases List.mem_cons.mp hq with rfl | hq
      · exact .tail _ (.tail _ (hrest _ hm))
      · exact .tail _ hq)
 | fail))
/-- the second one -/
theorem lam_second {Q : Value → Shared → Prop} (hpp : (p1.line == p2.line && p1.col == p2.col) = false) (F : Fr h₀ L s.heap m) (N : News h₀ L s.heap news) (T : Top p loose mean mg mb h₀) (C : CodeHd h₀ c P) (hcd : ccd = .ref c) (wt : Without P (tabObj ps) news r) (hr : ∀ q ∈ r, q.1 ≠ P) {rest : Led} (hrest : ∀ q ∈ rest, q ∈ r) (St : TabIn1 p1 p2 qual rest ps)
    (hcl : closureFor scope (envX cn cs L a ccd cl) = pure clos)
    (h : ∀ f c' oc vs t ctv ps' h' tk, Fr h₀ L h' m → News h₀ L h' ((f, kla_obj name qual params body scope clos ((mg "__name__").getD .none) c' ctv) :: (c', oc) :: (P, tabObj ps') :: r) →
      oc.data = .fields vs → vs[1]? = some (.str qual t) → TabIn1 p1 p2 qual ((c', oc) :: rest) ps' → c' ≠ P → f ≠ P → Q (.ref f) { s with heap := h', toks := tk }) :
    wpAny M A (makeFunction name qual params (.expr body) scope (envX cn cs L a ccd cl) [] [] [] p2 firstLine) Q E s := (by exact use_of : Use _ (by
 first
 | (
  have nn : ∀ (k : Int), (((p1.line : Int) == (p2.line : Int)) && ((p1.col : Int) == (p2.col : Int))) = false := fun _ => by
    rw [← hpp]; congr 1 <;> (apply Bool.eq_iff_iff.mpr; simp only [beq_iff_eq]; exact Int.ofNat_inj)
  rcases St with ⟨c1, rfl, R1⟩ | ⟨c1, c2, rfl, R1, oc, vs, t, hm, hd, hv⟩
  · refine lam_new F N T C hcd wt hr True.intro (by simp only [codeAmong, rawInt]; rw [nn 0]; rfl) hcl fun f c' oc ctv h' tk F' N' R nc nf => ?_
    obtain ⟨oc', vs, t, hm, hd, hv⟩ := R
    obtain rfl : oc' = oc := by simpa using hm
    exact h f c' oc' vs t ctv _ h' tk F' N' hd hv (.inr ⟨c1, c', rfl, R1.mono fun _ x => .tail _ x, oc', vs, t, .head _, hd, hv⟩) nc nf
  · refine lam_old (c' := c2) F N T C hcd wt True.intro (by simp only [codeAmong, rawInt]; rw [nn 0]; simp) hcl fun f ctv h' tk F' N' nf => ?_
    refine h f c2 oc vs t ctv _ h' tk F' (fun q hq => N' q ?_) hd hv (.inr ⟨c1, c2, rfl, R1.mono fun _ x => .tail _ x, oc, vs, t, .head _, hd, hv⟩) (hr _ (hrest _ hm)) nf
    rcases List.mem_cons.mp hq with rfl | hq
    · exact .head _
    · rcases List.mem_cons.mp hq with rfl | hq
      · exact .tail _ (.tail _ (hrest _ hm))
      · exact .tail _ hq)
 | fail))
end
end lam
end
section
set_option maxHeartbeats 800000
theorem wdsL68 : True := by
  k_with "compareOp NotIn str ref" =>
    fail_if_success (k_extra "off L68")
    ((k_here; (with_reducible show wpAny _ _ (compareOp CmpOp.NotIn (Value.str _ _) (Value.ref _)) _ _ _); k_dflt (refine' role_notin_list ?z8247hl ?_; (case z8247hl => is_list))))
  k_with "newList" =>
    fail_if_success (k_extra "off L68")
    (k_here; k_dflt (refine' newList_L ?nl1 ?nl2 ?_; (case nl1 => k_asm); (case nl2 => k_asm); k_whole); intro l' h' F' o9 N' l1; (try k_lt l1); (try k_sweep))
  k_with "newTuple" =>
    fail_if_success (k_extra "off L68")
    (k_here; k_dflt (refine' newTuple_L ?nt1 ?nt2 ?_ ?nt3; (case nt1 => k_asm); (case nt2 => k_asm); (case nt3 => kmk_size)); intro D' h' F' o9 N' l1; (try k_lt l1); (try k_sweep))
  trivial
theorem isrow_in {w : World} {p : Program} {loose : List Str} {mean : ExcName → Option Value} {mg mb : Str → Option Value}
  (κ : Cx) (A₀ : Around) (base h₀ : Heap) (m : Str → Option Value) (s : Shared) (Q E : Value → Shared → Prop)
  (led : Led) (fl rg : Addr) (inst low mac cost prio port hops : Int) (t1 t2 t3 t4 t5 t6 t7 t8 : Tok) (role : Str) (n1 : Nat)
  (B : Below A₀ base κ.outer h₀) (F : Fr h₀ κ.L s.heap m) (X : (KH w.params).In h₀) (N : News h₀ κ.L s.heap (led))
  (T : Top p loose mean mg mb h₀) (hk : κ.cs.kind = .function) (he1 : (fl, listOf #[.int inst t1, .ref rg, .int cost t4, .int prio t5, .int port t6, .int hops t7, .str role t8] n1) ∈ led) (he2 : (rg, tupO [.int low t2, .int mac t3]) ∈ led)
  (hd : κ.dp + 40 < recursionLimit) (hu : κ.un + 300 < cLine)
  (ret : ∀ (v : Bool) (h' : Heap) (tk' : Nat), (v = true ↔ IsRow inst low prio port role) → Fr h₀ κ.L h' m → News h₀ κ.L h' led → Q (.bool v) { s with heap := h', toks := tk' }):
  wpAny (model prg w) (T1 κ) (call (.ref (k_addr% "_law_is_row")) [.ref fl]) Q E s := (by exact use_of : Use _ (by
 first
 | (
  have N9 : News h₀ κ.L s.heap ((fl, listOf #[.int inst t1, .ref rg, .int cost t4, .int prio t5, .int port t6, .int hops t7, .str role t8] n1) :: (rg, tupO [.int low t2, .int mac t3]) :: led) := by
    intro p9 hp9
    simp only [List.mem_cons] at hp9
    rcases hp9 with rfl | rfl | hp9
    · exact N _ he1
    · exact N _ he2
    · exact N _ hp9
  clear N
  refine wpAny_call ?_
  k_dflt k_enter
  k_steps
  all_goals (exact ret _ _ _ (by subst_vars; unfold IsRow; first | exact ⟨fun h9 => (by cases h9), fun h9 => (by obtain ⟨a1, a2, a3, a4, a5, a6⟩ := h9; exfalso; first | omega | simp_all)⟩ | exact ⟨fun _ => ⟨by assumption, by omega, by omega, by omega, by omega, by omega⟩, fun _ => rfl⟩ | exact ⟨fun h9 => ⟨by assumption, by omega, by omega, by omega, by simp at h9; omega, by simp at h9; omega⟩, fun h9 => (by obtain ⟨a1, a2, a3, a4, a5, a6⟩ := h9; simp; omega)⟩ | (trace_state; fail)) (by k_asm) (by refine cb_drop (by assumption) ?_; intro p9 hp9; repeat (first | exact hp9 | apply List.Mem.tail))))
 | fail))
theorem isrow {w : World} {p : Program} {loose : List Str} {mean : ExcName → Option Value} {mg mb : Str → Option Value}
  (dp un : Nat) (gd : Option (List Code)) (cn : Str) (cs : Scope) (a : Addr) (ccd : Value) (cl : List (Str × Addr)) (outer : List Env) (A₀ : Around) (base h₀ : Heap) (L : Addr) (m : Str → Option Value) (s : Shared) (Q E : Value → Shared → Prop)
  (led : Led) (fl rg : Addr) (inst low mac cost prio port hops : Int) (t1 t2 t3 t4 t5 t6 t7 t8 : Tok) (role : Str) (n1 : Nat)
  (B : Below A₀ base outer h₀) (F : Fr h₀ L s.heap m) (X : (KH w.params).In h₀) (N : News h₀ L s.heap (led))
  (T : Top p loose mean mg mb h₀) (hk : cs.kind = .function) (he1 : (fl, listOf #[.int inst t1, .ref rg, .int cost t4, .int prio t5, .int port t6, .int hops t7, .str role t8] n1) ∈ led) (he2 : (rg, tupO [.int low t2, .int mac t3]) ∈ led)
  (hd : dp + 40 < recursionLimit) (hu : un + 300 < cLine)
  (ret : ∀ (v : Bool) (h' : Heap) (tk' : Nat), (v = true ↔ IsRow inst low prio port role) → Fr h₀ L h' m → News h₀ L h' led → Q (.bool v) { s with heap := h', toks := tk' }):
  wpAny (model prg w) (ktrTop dp un gd cn cs L a ccd cl outer) (call (.ref (k_addr% "_law_is_row")) [.ref fl]) Q E s :=
  isrow_in ⟨dp, un, gd, cn, cs, L, a, ccd, cl, outer⟩ A₀ base h₀ m s Q E led fl rg inst low mac cost prio port hops t1 t2 t3 t4 t5 t6 t7 t8 role n1 B F X N T hk he1 he2 hd hu ret
theorem wdoL68 : True := by
  k_with "off L68" => skip
  trivial
end
section
set_option maxHeartbeats 2000000
theorem wdsL70 : True := by
  k_with "newList" =>
    fail_if_success (k_extra "off L70")
    (k_here; k_dflt (refine' newList_L ?nl1 ?nl2 ?_; (case nl1 => k_asm); (case nl2 => k_asm); k_whole); intro l' h' F' o9 N' l1; (try k_lt l1); (try k_sweep))
  k_with "newTuple" =>
    fail_if_success (k_extra "off L70")
    (k_here; k_dflt (refine' newTuple_L ?nt1 ?nt2 ?_ ?nt3; (case nt1 => k_asm); (case nt2 => k_asm); (case nt3 => kmk_size)); intro D' h' F' o9 N' l1; (try k_lt l1); (try k_sweep))
  trivial
theorem hasroom_in {w : World} {p : Program} {loose : List Str} {mean : ExcName → Option Value} {mg mb : Str → Option Value}
  (κ : Cx) (A₀ : Around) (base h₀ : Heap) (m : Str → Option Value) (s : Shared) (Q E : Value → Shared → Prop)
  (led : Led) (fl rg : Addr) (inst low mac cost prio port hops : Int) (t1 t2 t3 t4 t5 t6 t7 t8 : Tok) (role : Str) (n1 : Nat)
  (B : Below A₀ base κ.outer h₀) (F : Fr h₀ κ.L s.heap m) (X : (KH w.params).In h₀) (N : News h₀ κ.L s.heap (led))
  (T : Top p loose mean mg mb h₀) (hk : κ.cs.kind = .function) (he1 : (fl, listOf #[.int inst t1, .ref rg, .int cost t4, .int prio t5, .int port t6, .int hops t7, .str role t8] n1) ∈ led) (he2 : (rg, tupO [.int low t2, .int mac t3]) ∈ led)
  (hd : κ.dp + 40 < recursionLimit) (hu : κ.un + 300 < cLine)
  (ret : ∀ (v : Bool) (h' : Heap) (tk' : Nat), (v = true ↔ 0 ≤ low ∧ low < 65536 ∧ 0 ≤ mac ∧ mac < 281474976710656 ∧ 0 ≤ cost ∧ cost < 4294967296 ∧ 0 ≤ prio / 256 ∧ prio / 256 < 256 ∧ 0 ≤ port ∧ port < 256 ∧ 0 ≤ hops ∧ hops < 256) → Fr h₀ κ.L h' m → News h₀ κ.L h' led → Q (.bool v) { s with heap := h', toks := tk' }):
  wpAny (model prg w) (T1 κ) (call (.ref (k_addr% "_law_has_room")) [.ref fl]) Q E s := (by exact use_of : Use _ (by
 first
 | (
  have N9 : News h₀ κ.L s.heap ((fl, listOf #[.int inst t1, .ref rg, .int cost t4, .int prio t5, .int port t6, .int hops t7, .str role t8] n1) :: (rg, tupO [.int low t2, .int mac t3]) :: led) := by
    intro p9 hp9
    simp only [List.mem_cons] at hp9
    rcases hp9 with rfl | rfl | hp9
    · exact N _ he1
    · exact N _ he2
    · exact N _ hp9
  clear N
  refine wpAny_call ?_
  k_dflt k_enter
  k_steps
  all_goals first
    | exact ret _ _ _ ⟨fun h9 => (by cases h9), fun h9 => (by exfalso; omega)⟩ (by k_asm) (by refine cb_drop (by assumption) ?_; intro p9 hp9; repeat (first | exact hp9 | apply List.Mem.tail))
    | skip
  refine McL.stepT (fun ys => RoomIs 1 ys ((True) ∧ 0 ≤ prio / 256 ∧ prio / 256 < 256)) ?_ ?_
  · intro I' oI' C' oC' D' m' h' tk' E' hC' hasg' F' N' off' ne'
    simp only [PyProof.Rows.LCg.Off3, and_true] at off'
    (repeat (obtain ⟨⟨_, _, _⟩, off'⟩ := off'))
    k_steps
    all_goals ((try (refine ⟨rfl, ?_⟩)); subst_vars; first | exact RoomIs.keep RoomIs.nil (by omega) | exact RoomIs.more RoomIs.nil (by omega))
  intro ys0 hs0
  refine McL.stepT (fun ys => RoomIs 2 ys (((True) ∧ 0 ≤ prio / 256 ∧ prio / 256 < 256) ∧ 0 ≤ port ∧ port < 256)) ?_ ?_
  · intro I' oI' C' oC' D' m' h' tk' E' hC' hasg' F' N' off' ne'
    simp only [PyProof.Rows.LCg.Off3, and_true] at off'
    (repeat (obtain ⟨⟨_, _, _⟩, off'⟩ := off'))
    k_steps
    all_goals ((try (refine ⟨rfl, ?_⟩)); subst_vars; first | exact RoomIs.keep hs0 (by omega) | exact RoomIs.more hs0 (by omega))
  intro ys1 hs1
  refine McL.stepT (fun ys => RoomIs 3 ys ((((True) ∧ 0 ≤ prio / 256 ∧ prio / 256 < 256) ∧ 0 ≤ port ∧ port < 256) ∧ 0 ≤ hops ∧ hops < 256)) ?_ ?_
  · intro I' oI' C' oC' D' m' h' tk' E' hC' hasg' F' N' off' ne'
    simp only [PyProof.Rows.LCg.Off3, and_true] at off'
    (repeat (obtain ⟨⟨_, _, _⟩, off'⟩ := off'))
    k_steps
    all_goals ((try (refine ⟨rfl, ?_⟩)); subst_vars; first | exact RoomIs.keep hs1 (by omega) | exact RoomIs.more hs1 (by omega))
  intro ys2 hs2
  obtain ⟨ks9, hi9, hl9, hv9⟩ := hs2
  k_steps
  all_goals exact ret _ _ _ ⟨fun h9 => (by obtain ⟨⟨⟨_, g1, g2⟩, g3, g4⟩, g5, g6⟩ := hv9.mp (of_decide_eq_true h9); first | (and_intros <;> with_reducible assumption) | omega), fun h9 => decide_eq_true (hv9.mpr (by obtain ⟨_, _, _, _, _, _, g1, g2, g3, g4, g5, g6⟩ := h9; exact ⟨⟨⟨trivial, g1, g2⟩, g3, g4⟩, g5, g6⟩))⟩ (by k_asm) (by refine cb_drop (by assumption) ?_; intro p9 hp9; repeat (first | exact hp9 | apply List.Mem.tail)))
 | fail))
theorem hasroom {w : World} {p : Program} {loose : List Str} {mean : ExcName → Option Value} {mg mb : Str → Option Value}
  (dp un : Nat) (gd : Option (List Code)) (cn : Str) (cs : Scope) (a : Addr) (ccd : Value) (cl : List (Str × Addr)) (outer : List Env) (A₀ : Around) (base h₀ : Heap) (L : Addr) (m : Str → Option Value) (s : Shared) (Q E : Value → Shared → Prop)
  (led : Led) (fl rg : Addr) (inst low mac cost prio port hops : Int) (t1 t2 t3 t4 t5 t6 t7 t8 : Tok) (role : Str) (n1 : Nat)
  (B : Below A₀ base outer h₀) (F : Fr h₀ L s.heap m) (X : (KH w.params).In h₀) (N : News h₀ L s.heap (led))
  (T : Top p loose mean mg mb h₀) (hk : cs.kind = .function) (he1 : (fl, listOf #[.int inst t1, .ref rg, .int cost t4, .int prio t5, .int port t6, .int hops t7, .str role t8] n1) ∈ led) (he2 : (rg, tupO [.int low t2, .int mac t3]) ∈ led)
  (hd : dp + 40 < recursionLimit) (hu : un + 300 < cLine)
  (ret : ∀ (v : Bool) (h' : Heap) (tk' : Nat), (v = true ↔ 0 ≤ low ∧ low < 65536 ∧ 0 ≤ mac ∧ mac < 281474976710656 ∧ 0 ≤ cost ∧ cost < 4294967296 ∧ 0 ≤ prio / 256 ∧ prio / 256 < 256 ∧ 0 ≤ port ∧ port < 256 ∧ 0 ≤ hops ∧ hops < 256) → Fr h₀ L h' m → News h₀ L h' led → Q (.bool v) { s with heap := h', toks := tk' }):
  wpAny (model prg w) (ktrTop dp un gd cn cs L a ccd cl outer) (call (.ref (k_addr% "_law_has_room")) [.ref fl]) Q E s :=
  hasroom_in ⟨dp, un, gd, cn, cs, L, a, ccd, cl, outer⟩ A₀ base h₀ m s Q E led fl rg inst low mac cost prio port hops t1 t2 t3 t4 t5 t6 t7 t8 role n1 B F X N T hk he1 he2 hd hu ret
theorem wdoL70 : True := by
  k_with "off L70" => skip
  trivial
end
section
set_option maxHeartbeats 4000000
theorem item_w {prog : Program} {w : World} {A : Around} {E : Value → Shared → Prop} {s : Shared} {k : Int} {u : Tok} {Q : Value → Shared → Prop} {value slice : PySem.Expr} {l : Addr} {vs : List Value} {v : Value} {h₀ : Heap} {L : Addr} {news r : Led} {n : Nat}
    (N : News h₀ L s.heap news) (wl : Without l (listOf vs.toArray n) news r) (h0 : 0 ≤ k) (hk : k ≤ 1000) (hx : vs[k.toNat]? = some v) (h : Q v s)
    (hs : subscripted slice false (.ref l) (.int k u) = operate [.ref l, .int k u] (getItem (.ref l) (.int k u)) := by with_unfolding_all rfl) :
    wpAny (model prog w) A (subscriptTail value slice (.ref l) (.int k u)) Q E s :=
  item_lit (News.isList N (mem_pick wl)) h0 (by omega) hx h hs
end
section
set_option maxHeartbeats 4000000
theorem wdsL131 : True := by
  k_with "my k_all" =>
    fail_if_success (k_extra "off L131")
    (first | (with_reducible assumption) | ((with_reducible show ∀ p ∈ (_ :: _), _); refine' List.forall_mem_cons.mpr ⟨?_, ?_⟩; (next => (dsimp only; first | (with_reducible assumption) | (with_reducible exact Ne.symm (by assumption)) | k_ne)); (next => k_all)) | exact lt_self (by assumption) | exact lt_up (by assumption) | assumption)
  k_with "call ref" =>
    fail_if_success (k_extra "off L131")
    ((k_here; (with_reducible show wpAny _ _ (call (Value.ref 164) [Value.ref _, Value.int _ _]) _ _ _); k_dflt (refine' takeD ?z7860F ?z7860B ?z7860X ?z7860N ?z7860w ?z7860ne ?z7860T ?z7860K ?z7860p ?z7860a ?z7860b ?z7860d ?z7860u ?_; (case z7860F => k_asm); (case z7860B => k_asm); (case z7860X => k_asm); (case z7860N => k_asm); (case z7860w => k_upd); (case z7860ne => k_all); (case z7860T => k_asm); (case z7860K => first | exact rfl | assumption); (case z7860p => assumption); (case z7860d => ktr_room); (case z7860u => ktr_room); (case z7860a => first | decide | omega); (case z7860b => first | decide | omega); intro d' x' y' t' tx' ty' h' tk' F' N' lo' hi' hp' off'; (try dsimp only))))
  k_with "call ref" =>
    fail_if_success (k_extra "off L131")
    ((k_here; (with_reducible show wpAny _ _ (call (Value.ref (k_addr% "_law_one")) [Value.ref _, Value.ref _]) _ _ _); k_dflt (first
      | (refine' oneD_int ?z5190F ?z5190B ?z5190X ?z5190N ?z5190w ?z5190hm ?z5190ne ?z5190T ?z5190K ?z5190p ?z5190l1 ?z5190l2 ?z5190v ?z5190d ?z5190u ?_; (case z5190F => k_asm); (case z5190B => k_asm); (case z5190X => k_asm); (case z5190N => k_asm); (case z5190w => k_upd); (case z5190hm => k_upd); (case z5190ne => k_all); (case z5190T => k_asm); (case z5190K => first | exact rfl | assumption); (case z5190p => assumption); (case z5190d => ktr_room); (case z5190u => ktr_room); (case z5190v => repeat (first | exact AllInt.nil | refine AllInt.cons ?_)); (case z5190l1 => exact Nat.le_of_ble_eq_true rfl); (case z5190l2 => exact Nat.le_of_ble_eq_true rfl); intro k' t' x' y' tx' ty' h' tk' F' N' hp' off'; (try dsimp only))
      | (refine' oneD_str ?z5190F ?z5190B ?z5190X ?z5190N ?z5190w ?z5190hm ?z5190ne ?z5190T ?z5190K ?z5190p ?z5190l1 ?z5190l2 ?z5190v ?z5190d ?z5190u ?_; (case z5190F => k_asm); (case z5190B => k_asm); (case z5190X => k_asm); (case z5190N => k_asm); (case z5190w => k_upd); (case z5190hm => k_upd); (case z5190ne => k_all); (case z5190T => k_asm); (case z5190K => first | exact rfl | assumption); (case z5190p => assumption); (case z5190d => ktr_room); (case z5190u => ktr_room); (case z5190v => repeat (first | exact AllStr.nil | refine AllStr.cons ?_)); (case z5190l1 => exact Nat.le_of_ble_eq_true rfl); (case z5190l2 => exact Nat.le_of_ble_eq_true rfl); intro k' t' x' y' tx' ty' h' tk' F' N' hp' off'; (try dsimp only))
      | (refine' oneD_ref4 ?z5190F ?z5190B ?z5190X ?z5190N ?z5190w ?z5190hm ?z5190ne ?z5190T ?z5190K ?z5190p ?z5190d ?z5190u ?_ ?_ ?_ ?_; (case z5190F => k_asm); (case z5190B => k_asm); (case z5190X => k_asm); (case z5190N => k_asm); (case z5190w => k_upd); (case z5190hm => k_upd); (case z5190ne => k_all); (case z5190T => k_asm); (case z5190K => first | exact rfl | assumption); (case z5190p => assumption); (case z5190d => ktr_room); (case z5190u => ktr_room); all_goals (intro x' y' tx' ty' h' tk' F' N' hp' off'; (try dsimp only))))))
  k_with "subscriptTail Name Name ref int" =>
    fail_if_success (k_extra "off L131")
    ((k_here; refine IfStop.mk ?_))
  k_with "newList" =>
    fail_if_success (k_extra "off L131")
    (k_here; k_dflt (refine' newList_L ?nl1 ?nl2 ?_; (case nl1 => k_asm); (case nl2 => k_asm); k_whole); intro l' h' F' o9 N' l1; (try k_lt l1); (try k_sweep))
  k_with "newTuple" =>
    fail_if_success (k_extra "off L131")
    (k_here; k_dflt (refine' newTuple_L ?nt1 ?nt2 ?_ ?nt3; (case nt1 => k_asm); (case nt2 => k_asm); (case nt3 => kmk_size)); intro D' h' F' o9 N' l1; (try k_lt l1); (try k_sweep))
  trivial
theorem fields_in {w : World} {p : Program} {loose : List Str} {mean : ExcName → Option Value} {mg mb : Str → Option Value}
  (κ : Cx) (A₀ : Around) (base h₀ : Heap) (m : Str → Option Value) (s : Shared) (Q E : Value → Shared → Prop)
  (rest : Led) (src : Addr) (x y : Int) (tx ty : Tok) (n : Nat)
  (B : Below A₀ base κ.outer h₀) (F : Fr h₀ κ.L s.heap m) (X : (KH w.params).In h₀) (N : News h₀ κ.L s.heap ((src, pool x y tx ty n) :: rest))
  (T : Top p loose mean mg mb h₀) (hk : κ.cs.kind = .function) (hne : ∀ p ∈ rest, p.1 ≠ src) (hp : 0 ≤ x ∧ 0 ≤ y ∧ y < 2147483647)
  (hd : κ.dp + 40 < recursionLimit) (hu : κ.un + 400 < cLine)
  (ret : ∀ (fl rg : Addr) (inst low mac cost prio port hops : Int) (t1 t2 t3 t4 t5 t6 t7 t8 : Tok) (role : Str) (n1 : Nat) (x' y' : Int) (tx' ty' : Tok) (h' : Heap) (tk' : Nat), Fr h₀ κ.L h' m → News h₀ κ.L h' ((src, pool x' y' tx' ty' n) :: (fl, listOf #[.int inst t1, .ref rg, .int cost t4, .int prio t5, .int port t6, .int hops t7, .str role t8] n1) :: (rg, tupO [.int low t2, .int mac t3]) :: rest) → 0 ≤ x' ∧ 0 ≤ y' ∧ y' < 2147483647 → (∀ q9 ∈ (fl, listOf #[.int inst t1, .ref rg, .int cost t4, .int prio t5, .int port t6, .int hops t7, .str role t8] n1) :: (rg, tupO [.int low t2, .int mac t3]) :: rest, q9.1 ≠ src) → Q (.ref fl) { s with heap := h', toks := tk' }):
  wpAny (model prg w) (T1 κ) (call (.ref (k_addr% "_law_fields")) [.ref src]) Q E s := (by exact use_of : Use _ (by
 first
 | (
  refine wpAny_call ?_
  k_dflt k_enter
  k_steps
  rotate_left
  · (refine' ret _ _ _ _ _ _ _ _ _ _ _ _ _ _ _ _ _ _ _ _ _ _ _ _ _ ?f7 ?n7 ?p7 ?o7; (case f7 => k_asm); (case n7 => refine news_pick (by assumption) ?_; (repeat (first | exact Picks.self | (refine' Picks.cons ?w ?_; (case w => k_upd)) | refine' Picks.up ?_))); (case p7 => assumption); (case o7 => (refine' off_list (by assumption) ?ws ?wv ?wl ?wr; (case ws => k_upd); (case wv => k_upd); (case wl => exact (by decide : ¬ (7 = 2))); (case wr => (repeat (first | assumption | (refine' off_tup (by assumption) ?ws ?wv ?_; (case ws => k_upd); (case wv => k_upd))))))))
  unfold IfStop
  rcases cases7 (by assumption) (by assumption) with rfl | rfl | rfl | rfl | rfl | rfl | rfl
  · k_dflt (refine' item_w ?N ?w ?a ?b ?x ?_ ?hs)
    case N => k_asm
    case w => k_upd
    case a => decide
    case b => decide
    case x => rfl
    case hs => with_unfolding_all rfl
    k_steps
    all_goals (refine' ret _ _ _ _ _ _ _ _ _ _ _ _ _ _ _ _ _ _ _ _ _ _ _ _ _ ?f7 ?n7 ?p7 ?o7; (case f7 => k_asm); (case n7 => refine news_pick (by assumption) ?_; (repeat (first | exact Picks.self | (refine' Picks.cons ?w ?_; (case w => k_upd)) | refine' Picks.up ?_))); (case p7 => assumption); (case o7 => (refine' off_list (by assumption) ?ws ?wv ?wl ?wr; (case ws => k_upd); (case wv => k_upd); (case wl => exact (by decide : ¬ (7 = 2))); (case wr => (repeat (first | assumption | (refine' off_tup (by assumption) ?ws ?wv ?_; (case ws => k_upd); (case wv => k_upd))))))))
  · k_dflt (refine' item_w ?N ?w ?a ?b ?x ?_ ?hs)
    case N => k_asm
    case w => k_upd
    case a => decide
    case b => decide
    case x => rfl
    case hs => with_unfolding_all rfl
    k_steps
    all_goals (refine' ret _ _ _ _ _ _ _ _ _ _ _ _ _ _ _ _ _ _ _ _ _ _ _ _ _ ?f7 ?n7 ?p7 ?o7; (case f7 => k_asm); (case n7 => refine news_pick (by assumption) ?_; (repeat (first | exact Picks.self | (refine' Picks.cons ?w ?_; (case w => k_upd)) | refine' Picks.up ?_))); (case p7 => assumption); (case o7 => (refine' off_list (by assumption) ?ws ?wv ?wl ?wr; (case ws => k_upd); (case wv => k_upd); (case wl => exact (by decide : ¬ (7 = 2))); (case wr => (repeat (first | assumption | (refine' off_tup (by assumption) ?ws ?wv ?_; (case ws => k_upd); (case wv => k_upd))))))))
  · k_dflt (refine' item_w ?N ?w ?a ?b ?x ?_ ?hs)
    case N => k_asm
    case w => k_upd
    case a => decide
    case b => decide
    case x => rfl
    case hs => with_unfolding_all rfl
    k_steps
    all_goals (refine' ret _ _ _ _ _ _ _ _ _ _ _ _ _ _ _ _ _ _ _ _ _ _ _ _ _ ?f7 ?n7 ?p7 ?o7; (case f7 => k_asm); (case n7 => refine news_pick (by assumption) ?_; (repeat (first | exact Picks.self | (refine' Picks.cons ?w ?_; (case w => k_upd)) | refine' Picks.up ?_))); (case p7 => assumption); (case o7 => (refine' off_list (by assumption) ?ws ?wv ?wl ?wr; (case ws => k_upd); (case wv => k_upd); (case wl => exact (by decide : ¬ (7 = 2))); (case wr => (repeat (first | assumption | (refine' off_tup (by assumption) ?ws ?wv ?_; (case ws => k_upd); (case wv => k_upd))))))))
  · k_dflt (refine' item_w ?N ?w ?a ?b ?x ?_ ?hs)
    case N => k_asm
    case w => k_upd
    case a => decide
    case b => decide
    case x => rfl
    case hs => with_unfolding_all rfl
    k_steps
    all_goals (refine' ret _ _ _ _ _ _ _ _ _ _ _ _ _ _ _ _ _ _ _ _ _ _ _ _ _ ?f7 ?n7 ?p7 ?o7; (case f7 => k_asm); (case n7 => refine news_pick (by assumption) ?_; (repeat (first | exact Picks.self | (refine' Picks.cons ?w ?_; (case w => k_upd)) | refine' Picks.up ?_))); (case p7 => assumption); (case o7 => (refine' off_list (by assumption) ?ws ?wv ?wl ?wr; (case ws => k_upd); (case wv => k_upd); (case wl => exact (by decide : ¬ (7 = 2))); (case wr => (repeat (first | assumption | (refine' off_tup (by assumption) ?ws ?wv ?_; (case ws => k_upd); (case wv => k_upd))))))))
  · k_dflt (refine' item_w ?N ?w ?a ?b ?x ?_ ?hs)
    case N => k_asm
    case w => k_upd
    case a => decide
    case b => decide
    case x => rfl
    case hs => with_unfolding_all rfl
    k_steps
    all_goals (refine' ret _ _ _ _ _ _ _ _ _ _ _ _ _ _ _ _ _ _ _ _ _ _ _ _ _ ?f7 ?n7 ?p7 ?o7; (case f7 => k_asm); (case n7 => refine news_pick (by assumption) ?_; (repeat (first | exact Picks.self | (refine' Picks.cons ?w ?_; (case w => k_upd)) | refine' Picks.up ?_))); (case p7 => assumption); (case o7 => (refine' off_list (by assumption) ?ws ?wv ?wl ?wr; (case ws => k_upd); (case wv => k_upd); (case wl => exact (by decide : ¬ (7 = 2))); (case wr => (repeat (first | assumption | (refine' off_tup (by assumption) ?ws ?wv ?_; (case ws => k_upd); (case wv => k_upd))))))))
  · k_dflt (refine' item_w ?N ?w ?a ?b ?x ?_ ?hs)
    case N => k_asm
    case w => k_upd
    case a => decide
    case b => decide
    case x => rfl
    case hs => with_unfolding_all rfl
    k_steps
    all_goals (refine' ret _ _ _ _ _ _ _ _ _ _ _ _ _ _ _ _ _ _ _ _ _ _ _ _ _ ?f7 ?n7 ?p7 ?o7; (case f7 => k_asm); (case n7 => refine news_pick (by assumption) ?_; (repeat (first | exact Picks.self | (refine' Picks.cons ?w ?_; (case w => k_upd)) | refine' Picks.up ?_))); (case p7 => assumption); (case o7 => (refine' off_list (by assumption) ?ws ?wv ?wl ?wr; (case ws => k_upd); (case wv => k_upd); (case wl => exact (by decide : ¬ (7 = 2))); (case wr => (repeat (first | assumption | (refine' off_tup (by assumption) ?ws ?wv ?_; (case ws => k_upd); (case wv => k_upd))))))))
  · k_dflt (refine' item_w ?N ?w ?a ?b ?x ?_ ?hs)
    case N => k_asm
    case w => k_upd
    case a => decide
    case b => decide
    case x => rfl
    case hs => with_unfolding_all rfl
    k_steps
    all_goals (refine' ret _ _ _ _ _ _ _ _ _ _ _ _ _ _ _ _ _ _ _ _ _ _ _ _ _ ?f7 ?n7 ?p7 ?o7; (case f7 => k_asm); (case n7 => refine news_pick (by assumption) ?_; (repeat (first | exact Picks.self | (refine' Picks.cons ?w ?_; (case w => k_upd)) | refine' Picks.up ?_))); (case p7 => assumption); (case o7 => (refine' off_list (by assumption) ?ws ?wv ?wl ?wr; (case ws => k_upd); (case wv => k_upd); (case wl => exact (by decide : ¬ (7 = 2))); (case wr => (repeat (first | assumption | (refine' off_tup (by assumption) ?ws ?wv ?_; (case ws => k_upd); (case wv => k_upd)))))))))
 | fail))
theorem fields {w : World} {p : Program} {loose : List Str} {mean : ExcName → Option Value} {mg mb : Str → Option Value}
  (dp un : Nat) (gd : Option (List Code)) (cn : Str) (cs : Scope) (a : Addr) (ccd : Value) (cl : List (Str × Addr)) (outer : List Env) (A₀ : Around) (base h₀ : Heap) (L : Addr) (m : Str → Option Value) (s : Shared) (Q E : Value → Shared → Prop)
  (rest : Led) (src : Addr) (x y : Int) (tx ty : Tok) (n : Nat)
  (B : Below A₀ base outer h₀) (F : Fr h₀ L s.heap m) (X : (KH w.params).In h₀) (N : News h₀ L s.heap ((src, pool x y tx ty n) :: rest))
  (T : Top p loose mean mg mb h₀) (hk : cs.kind = .function) (hne : ∀ p ∈ rest, p.1 ≠ src) (hp : 0 ≤ x ∧ 0 ≤ y ∧ y < 2147483647)
  (hd : dp + 40 < recursionLimit) (hu : un + 400 < cLine)
  (ret : ∀ (fl rg : Addr) (inst low mac cost prio port hops : Int) (t1 t2 t3 t4 t5 t6 t7 t8 : Tok) (role : Str) (n1 : Nat) (x' y' : Int) (tx' ty' : Tok) (h' : Heap) (tk' : Nat), Fr h₀ L h' m → News h₀ L h' ((src, pool x' y' tx' ty' n) :: (fl, listOf #[.int inst t1, .ref rg, .int cost t4, .int prio t5, .int port t6, .int hops t7, .str role t8] n1) :: (rg, tupO [.int low t2, .int mac t3]) :: rest) → 0 ≤ x' ∧ 0 ≤ y' ∧ y' < 2147483647 → (∀ q9 ∈ (fl, listOf #[.int inst t1, .ref rg, .int cost t4, .int prio t5, .int port t6, .int hops t7, .str role t8] n1) :: (rg, tupO [.int low t2, .int mac t3]) :: rest, q9.1 ≠ src) → Q (.ref fl) { s with heap := h', toks := tk' }):
  wpAny (model prg w) (ktrTop dp un gd cn cs L a ccd cl outer) (call (.ref (k_addr% "_law_fields")) [.ref src]) Q E s :=
  fields_in ⟨dp, un, gd, cn, cs, L, a, ccd, cl, outer⟩ A₀ base h₀ m s Q E rest src x y tx ty n B F X N T hk hne hp hd hu ret
theorem wdoL131 : True := by
  k_with "off L131" => skip
  trivial
end
section
set_option maxHeartbeats 4000000
theorem isrow2 {w : World} {p : Program} {loose : List Str} {mean : ExcName → Option Value} {mg mb : Str → Option Value}
  {dp un : Nat} {gd : Option (List Code)} {cn : Str} {cs : Scope} {a : Addr} {ccd : Value} {cl : List (Str × Addr)} {outer : List Env} {A₀ : Around} {base h₀ : Heap} {L : Addr} {m : Str → Option Value} {s : Shared} {Q E : Value → Shared → Prop}
  {led : Led} {fl rg : Addr} {inst low mac cost prio port hops : Int} {t1 t2 t3 t4 t5 t6 t7 t8 : Tok} {role : Str} {n1 : Nat}
  (B : Below A₀ base outer h₀) (F : Fr h₀ L s.heap m) (X : (KH w.params).In h₀) (N : News h₀ L s.heap led) (T : Top p loose mean mg mb h₀) (hk : cs.kind = .function)
  (he1 : (fl, listOf #[.int inst t1, .ref rg, .int cost t4, .int prio t5, .int port t6, .int hops t7, .str role t8] n1) ∈ led) (he2 : (rg, tupO [.int low t2, .int mac t3]) ∈ led) (hd : dp + 40 < recursionLimit) (hu : un + 300 < cLine)
  (yes : IsRow inst low prio port role → ∀ (h' : Heap) (tk' : Nat), Fr h₀ L h' m → News h₀ L h' led → Q (.bool true) { s with heap := h', toks := tk' })
  (no : ¬(IsRow inst low prio port role) → ∀ (h' : Heap) (tk' : Nat), Fr h₀ L h' m → News h₀ L h' led → Q (.bool false) { s with heap := h', toks := tk' }) :
  wpAny (model prg w) (ktrTop dp un gd cn cs L a ccd cl outer) (call (.ref (k_addr% "_law_is_row")) [.ref fl]) Q E s :=
  isrow dp un gd cn cs a ccd cl outer A₀ base h₀ L m s Q E led fl rg inst low mac cost prio port hops t1 t2 t3 t4 t5 t6 t7 t8 role n1 B F X N T hk he1 he2 hd hu (fun v h' tk' hv F' N' => by
    cases v with
    | true => exact yes (hv.mp rfl) h' tk' F' N'
    | false => exact no (fun q => by have := hv.mpr q; cases this) h' tk' F' N')
theorem room2 {w : World} {p : Program} {loose : List Str} {mean : ExcName → Option Value} {mg mb : Str → Option Value}
  {dp un : Nat} {gd : Option (List Code)} {cn : Str} {cs : Scope} {a : Addr} {ccd : Value} {cl : List (Str × Addr)} {outer : List Env} {A₀ : Around} {base h₀ : Heap} {L : Addr} {m : Str → Option Value} {s : Shared} {Q E : Value → Shared → Prop}
  {led : Led} {fl rg : Addr} {inst low mac cost prio port hops : Int} {t1 t2 t3 t4 t5 t6 t7 t8 : Tok} {role : Str} {n1 : Nat}
  (B : Below A₀ base outer h₀) (F : Fr h₀ L s.heap m) (X : (KH w.params).In h₀) (N : News h₀ L s.heap led) (T : Top p loose mean mg mb h₀) (hk : cs.kind = .function)
  (he1 : (fl, listOf #[.int inst t1, .ref rg, .int cost t4, .int prio t5, .int port t6, .int hops t7, .str role t8] n1) ∈ led) (he2 : (rg, tupO [.int low t2, .int mac t3]) ∈ led) (hd : dp + 40 < recursionLimit) (hu : un + 300 < cLine)
  (yes : 0 ≤ low ∧ low < 65536 ∧ 0 ≤ mac ∧ mac < 281474976710656 ∧ 0 ≤ cost ∧ cost < 4294967296 ∧ 0 ≤ prio / 256 ∧ prio / 256 < 256 ∧ 0 ≤ port ∧ port < 256 ∧ 0 ≤ hops ∧ hops < 256 → ∀ (h' : Heap) (tk' : Nat), Fr h₀ L h' m → News h₀ L h' led → Q (.bool true) { s with heap := h', toks := tk' })
  (no : ¬(0 ≤ low ∧ low < 65536 ∧ 0 ≤ mac ∧ mac < 281474976710656 ∧ 0 ≤ cost ∧ cost < 4294967296 ∧ 0 ≤ prio / 256 ∧ prio / 256 < 256 ∧ 0 ≤ port ∧ port < 256 ∧ 0 ≤ hops ∧ hops < 256) → ∀ (h' : Heap) (tk' : Nat), Fr h₀ L h' m → News h₀ L h' led → Q (.bool false) { s with heap := h', toks := tk' }) :
  wpAny (model prg w) (ktrTop dp un gd cn cs L a ccd cl outer) (call (.ref (k_addr% "_law_has_room")) [.ref fl]) Q E s :=
  hasroom dp un gd cn cs a ccd cl outer A₀ base h₀ L m s Q E led fl rg inst low mac cost prio port hops t1 t2 t3 t4 t5 t6 t7 t8 role n1 B F X N T hk he1 he2 hd hu (fun v h' tk' hv F' N' => by
    cases v with
    | true => exact yes (hv.mp rfl) h' tk' F' N'
    | false => exact no (fun q => by have := hv.mpr q; cases this) h' tk' F' N')
/-- what is no list and no tuple is neither of the two -/
def SeqOff (rest : Led) (fl rg : Addr) : Prop := ∀ q ∈ rest, (∀ vs n, q.2.data ≠ .seq vs n) → q.1 ≠ fl ∧ q.1 ≠ rg
theorem seqOff_of {h₀ h : Heap} {L fl rg : Addr} {a : Addr × Obj} {vs us : List Value} {n : Nat} {rest : Led} (N : News h₀ L h (a :: (fl, listOf vs.toArray n) :: (rg, tupO us) :: rest)) : SeqOff rest fl rg := fun q hq hd => by
  have z := (N q (.tail _ (.tail _ (.tail _ hq)))).1
  have f := (N _ (.tail _ (.head _))).1
  have r := (N _ (.tail _ (.tail _ (.head _)))).1
  constructor
  · intro e
    rw [e] at z
    dsimp only at f
    rw [f] at z
    exact hd _ _ (by rw [← Option.some.inj z])
  · intro e
    rw [e] at z
    dsimp only at r
    rw [r] at z
    exact hd _ _ (by rw [← Option.some.inj z])
theorem cell_noseq {o : Obj} {v : Option Value} (h : o.data = .cell v) : ∀ vs n, o.data ≠ .seq vs n := fun _ _ e => by rw [h] at e; cases e
theorem tab_noseq {ps : Array Value} : ∀ vs n, (tabObj ps).data ≠ .seq vs n := fun _ _ e => by cases e
theorem ne_fl {rest : Led} {fl rg c : Addr} {o : Obj} (hs : SeqOff rest fl rg) (hm : (c, o) ∈ rest) (hd : ∀ vs n, o.data ≠ .seq vs n) : fl ≠ c := Ne.symm (hs _ hm hd).1
theorem ne_rg {rest : Led} {fl rg c : Addr} {o : Obj} (hs : SeqOff rest fl rg) (hm : (c, o) ∈ rest) (hd : ∀ vs n, o.data ≠ .seq vs n) : rg ≠ c := Ne.symm (hs _ hm hd).2
theorem fieldsAt {w : World} {p : Program} {loose : List Str} {mean : ExcName → Option Value} {mg mb : Str → Option Value}
  {dp un : Nat} {gd : Option (List Code)} {cn : Str} {cs : Scope} {a : Addr} {ccd : Value} {cl : List (Str × Addr)} {outer : List Env} {A₀ : Around} {base h₀ : Heap} {L : Addr} {m : Str → Option Value} {s : Shared} {Q E : Value → Shared → Prop}
  {src : Addr} {x y : Int} {tx ty : Tok} {n : Nat} {all rest : Led}
  (F : Fr h₀ L s.heap m) (B : Below A₀ base outer h₀) (X : (KH w.params).In h₀) (N : News h₀ L s.heap all) (wo : Without src (pool x y tx ty n) all rest) (hne : ∀ p ∈ rest, p.1 ≠ src)
  (T : Top p loose mean mg mb h₀) (hk : cs.kind = .function) (hp : 0 ≤ x ∧ 0 ≤ y ∧ y < 2147483647) (hd : dp + 40 < recursionLimit) (hu : un + 400 < cLine)
  (ret : ∀ (fl rg : Addr) (inst low mac cost prio port hops : Int) (t1 t2 t3 t4 t5 t6 t7 t8 : Tok) (role : Str) (n1 : Nat) (x' y' : Int) (tx' ty' : Tok) (h' : Heap) (tk' : Nat), Fr h₀ L h' m → News h₀ L h' ((src, pool x' y' tx' ty' n) :: (fl, listOf #[.int inst t1, .ref rg, .int cost t4, .int prio t5, .int port t6, .int hops t7, .str role t8] n1) :: (rg, tupO [.int low t2, .int mac t3]) :: rest) → 0 ≤ x' ∧ 0 ≤ y' ∧ y' < 2147483647 → (∀ q9 ∈ (fl, listOf #[.int inst t1, .ref rg, .int cost t4, .int prio t5, .int port t6, .int hops t7, .str role t8] n1) :: (rg, tupO [.int low t2, .int mac t3]) :: rest, q9.1 ≠ src) → SeqOff rest fl rg → Q (.ref fl) { s with heap := h', toks := tk' }) :
  wpAny (model prg w) (ktrTop dp un gd cn cs L a ccd cl outer) (call (.ref (k_addr% "_law_fields")) [.ref src]) Q E s :=
  fields dp un gd cn cs a ccd cl outer A₀ base h₀ L m s Q E rest src x y tx ty n B F X (fun p hp => N p (wo.sub p hp)) T hk hne hp hd hu (fun fl rg inst low mac cost prio port hops t1 t2 t3 t4 t5 t6 t7 t8 role n1 x' y' tx' ty' h' tk' F' N' P' O' => ret fl rg inst low mac cost prio port hops t1 t2 t3 t4 t5 t6 t7 t8 role n1 x' y' tx' ty' h' tk' F' N' P' O' (seqOff_of N'))
theorem bInts_inj {a b : Array UInt8} (h : KBw.bInts a = KBw.bInts b) : a = b := by
  obtain ⟨a⟩ := a
  obtain ⟨b⟩ := b
  congr 1
  unfold KBw.bInts at h
  induction a generalizing b with
  | nil => cases b with
    | nil => rfl
    | cons y ys => simp at h
  | cons x xs ih => cases b with
    | nil => simp at h
    | cons y ys =>
      simp only [List.map_cons, List.cons.injEq] at h
      obtain ⟨h1, h2⟩ := h
      have e : x = y := UInt8.toNat_inj.mp (by omega)
      rw [e, ih _ h2]
end
section
set_option maxHeartbeats 4000000
theorem rr_news1 {h₀ h : Heap} {L src c : Addr} {o po : Obj} {ps : Array Value} {led r1 r2 r3 rest : Led} (N : News h₀ L h led) (ws : Without src po led r1) (wt : Without 235 (tabObj ps) led r2) (wc : Without c o led r3) (hr : Picks rest led) : News h₀ L h ((src, po) :: (235, tabObj ps) :: (rest ++ [(c, o)])) := fun p hp => N p (by
  rcases List.mem_cons.mp hp with rfl | hp
  · exact mem_pick ws
  · rcases List.mem_cons.mp hp with rfl | hp
    · exact mem_pick wt
    · rcases List.mem_append.mp hp with hp | hp
      · exact hr.sub _ hp
      · rw [List.mem_singleton.mp hp]; exact mem_pick wc)
theorem rr_news2 {h₀ h : Heap} {L src c d : Addr} {o oo po : Obj} {ps : Array Value} {led r1 r2 r3 r4 rest : Led} (N : News h₀ L h led) (ws : Without src po led r1) (wt : Without 235 (tabObj ps) led r2) (wc : Without c o led r3) (wd : Without d oo led r4) (hr : Picks rest led) : News h₀ L h ((src, po) :: (235, tabObj ps) :: (rest ++ [(c, o), (d, oo)])) := fun p hp => N p (by
  rcases List.mem_cons.mp hp with rfl | hp
  · exact mem_pick ws
  · rcases List.mem_cons.mp hp with rfl | hp
    · exact mem_pick wt
    · rcases List.mem_append.mp hp with hp | hp
      · exact hr.sub _ hp
      · rcases List.mem_cons.mp hp with rfl | hp
        · exact mem_pick wc
        · rw [List.mem_singleton.mp hp]; exact mem_pick wd)
theorem tab_ext1 {p1 p2 : Pos} {q : Str} {r : Led} {a : Addr × Obj} {ps : Array Value} (h : TabIn1 p1 p2 q (a :: r) ps) : TabIn1 p1 p2 q (r ++ [a]) ps := h.mono fun p hp => by
  rcases List.mem_cons.mp hp with rfl | hp
  · exact List.mem_append_right _ (.head _)
  · exact List.mem_append_left _ hp
theorem tab_ext2 {p1 p2 : Pos} {q : Str} {r : Led} {a b : Addr × Obj} {ps : Array Value} (h : TabIn1 p1 p2 q (a :: b :: r) ps) : TabIn1 p1 p2 q (r ++ [a, b]) ps := h.mono fun p hp => by
  rcases List.mem_cons.mp hp with rfl | hp
  · exact List.mem_append_right _ (.head _)
  · rcases List.mem_cons.mp hp with rfl | hp
    · exact List.mem_append_right _ (.tail _ (.head _))
    · exact List.mem_append_left _ hp
/-- a code record is no pool -/
theorem rec_off {h₀ h : Heap} {L src c : Addr} {x y : Int} {tx ty : Tok} {n : Nat} {o : Obj} {vs : Array Value} {led r1 r2 : Led} (N : News h₀ L h led) (ws : Without src (pool x y tx ty n) led r1) (wc : Without c o led r2) (hd : o.data = .fields vs) : c ≠ src := fun e => by
  have a := (N _ (mem_pick ws)).1
  have b := (N _ (mem_pick wc)).1
  dsimp only at a b
  rw [e, a] at b
  rw [← Option.some.inj b] at hd
  simp [W.listOf] at hd
/-- what is said of the code records that a call leaves -/
def ExtOk (src : Addr) (q : Str) (ext : Led) : Prop := ∀ p ∈ ext, p.1 ≠ src ∧ @Ne Nat p.1 235 ∧ ∃ vs t, p.2.data = .fields vs ∧ vs[1]? = some (.str q t)
theorem ext_off1 {c src : Addr} {o : Obj} {q : Str} {vs : Array Value} {t : Tok} (h1 : c ≠ src) (h2 : @Ne Nat c 235) (d : o.data = .fields vs) (e : vs[1]? = some (.str q t)) : ExtOk src q [(c, o)] := fun p hp => by rw [List.mem_singleton.mp hp]; exact ⟨h1, h2, vs, t, d, e⟩
theorem ext_off2 {c d src : Addr} {o oo : Obj} {q : Str} {vs us : Array Value} {t u : Tok} (h1 : c ≠ src) (h2 : @Ne Nat c 235) (d1 : o.data = .fields vs) (e1 : vs[1]? = some (.str q t)) (h3 : d ≠ src) (h4 : @Ne Nat d 235) (d2 : oo.data = .fields us) (e2 : us[1]? = some (.str q u)) : ExtOk src q [(c, o), (d, oo)] := fun p hp => by
  rcases List.mem_cons.mp hp with rfl | hp
  · exact ⟨h1, h2, vs, t, d1, e1⟩
  · rw [List.mem_singleton.mp hp]; exact ⟨h3, h4, us, u, d2, e2⟩
theorem oct0_in {r : Str} {f1 f2 f3 f4 f5 : Bool} : 0 ≤ 4 * roleIx r + flagSum f1 f2 f3 f4 f5 ∧ 4 * roleIx r + flagSum f1 f2 f3 f4 f5 < 256 := by
  have a := @flagSum_in f1 f2 f3 f4 f5
  have b := @roleIx_in r
  omega
end
section
set_option maxHeartbeats 4000000
section toldeq
open PySem PySem.Spec PySem.SeqAt
theorem strOk_role {r : Str} (h : isRole r = true) : PyData.strOk r = true := by
  rcases isRole_cases h with rfl | rfl | rfl | rfl <;> decide +kernel
abbrev toldV (inst : Int) (t1 : Tok) (rg : Addr) (cost prio port hops : Int) (t4 t5 t6 t7 : Tok) (role : Str) (t8 : Tok) (T : Addr) : Obj := tupO [.int inst t1, .ref rg, .int cost t4, .int prio t5, .int port t6, .int hops t7, .str role t8, .ref T]
abbrev toldD (inst low mac cost prio port hops : Int) (role : Str) (f1 f2 f3 f4 f5 : Bool) : PyData := .tuple [.int inst, .tuple [.int low, .int mac], .int cost, .int prio, .int port, .int hops, .str role, .tuple [.bool f1, .bool f2, .bool f3, .bool f4, .bool f5]]
theorem told_reads {h₀ h : Heap} {L D rg T : Addr} {inst low mac cost prio port hops : Int} {t1 t2 t3 t4 t5 t6 t7 t8 : Tok} {role : Str} {f1 f2 f3 f4 f5 : Bool} {led r1 r2 r3 : Led} (N : News h₀ L h led)
    (w1 : Without D (tupO [.int inst t1, .ref rg, .int cost t4, .int prio t5, .int port t6, .int hops t7, .str role t8, .ref T]) led r1) (w2 : Without rg (tupO [.int low t2, .int mac t3]) led r2) (w3 : Without T (tupO [.bool f1, .bool f2, .bool f3, .bool f4, .bool f5]) led r3) :
    ∃ as, Reads h (.ref D) (toldD inst low mac cost prio port hops role f1 f2 f3 f4 f5) as :=
  ⟨_, reads_tuple_at (N.get (mem_pick w1)) rfl rfl (.cons (Reads.int _ _) (.cons (reads_tuple_at (N.get (mem_pick w2)) rfl rfl (.cons (Reads.int _ _) (.cons (Reads.int _ _) .nil))) (.cons (Reads.int _ _) (.cons (Reads.int _ _) (.cons (Reads.int _ _) (.cons (Reads.int _ _) (.cons (Reads.str _ _)
    (.cons (reads_tuple_at (N.get (mem_pick w3)) rfl rfl (.cons (Reads.bool _) (.cons (Reads.bool _) (.cons (Reads.bool _) (.cons (Reads.bool _) (.cons (Reads.bool _) .nil)))))) .nil))))))))⟩
section
variable {prog : Program} {w : World} {A : Around} {s : Shared} {E Q : Value → Shared → Prop} {h₀ : Heap} {L D rg T D' rg' T' : Addr} {inst low mac cost prio port hops inst' low' mac' cost' prio' port' hops' : Int}
  {t1 t2 t3 t4 t5 t6 t7 t8 u1 u2 u3 u4 u5 u6 u7 u8 : Tok} {role role' : Str} {f1 f2 f3 f4 f5 g1 g2 g3 g4 g5 : Bool} {led r1 r2 r3 r4 r5 r6 : Led}
theorem told_eqv (N : News h₀ L s.heap led)
    (w1 : Without D (tupO [.int inst t1, .ref rg, .int cost t4, .int prio t5, .int port t6, .int hops t7, .str role t8, .ref T]) led r1) (w2 : Without rg (tupO [.int low t2, .int mac t3]) led r2) (w3 : Without T (tupO [.bool f1, .bool f2, .bool f3, .bool f4, .bool f5]) led r3)
    (v1 : Without D' (tupO [.int inst' u1, .ref rg', .int cost' u4, .int prio' u5, .int port' u6, .int hops' u7, .str role' u8, .ref T']) led r4) (v2 : Without rg' (tupO [.int low' u2, .int mac' u3]) led r5) (v3 : Without T' (tupO [.bool g1, .bool g2, .bool g3, .bool g4, .bool g5]) led r6)
    (e1 : inst = inst') (e2 : low = low') (e3 : mac = mac') (e4 : cost = cost') (e5 : prio = prio') (e6 : port = port') (e7 : hops = hops') (e8 : role = role') (b1 : f1 = g1) (b2 : f2 = g2) (b3 : f3 = g3) (b4 : f4 = g4) (b5 : f5 = g5) (hs : isRole role' = true) (hu : A.units + 64 < cLine) :
    (Q (.bool true) s → wpAny (model prog w) A (compareOp .Eq (.ref D) (.ref D')) Q E s) ∧ (Q (.bool false) s → wpAny (model prog w) A (compareOp .NotEq (.ref D) (.ref D')) Q E s) := (by exact use_of : Use _ (by
 first
 | (
  subst e1 e2 e3 e4 e5 e6 e7 e8 b1 b2 b3 b4 b5
  obtain ⟨as, ra⟩ := told_reads N w1 w2 w3
  obtain ⟨bs, rb⟩ := told_reads N v1 v2 v3
  have sh : PySem.SeqAt.shaped (toldD inst low mac cost prio port hops role f1 f2 f3 f4 f5) = true := by
    simp [PySem.SeqAt.shaped, PyData.canLay0, PyData.canLayAll0, PyData.depth, PyData.depthAll, strOk_role hs]
  have ev : PyData.eqv (toldD inst low mac cost prio port hops role f1 f2 f3 f4 f5) (toldD inst low mac cost prio port hops role f1 f2 f3 f4 f5) = true := by
    simp [PyData.eqv, PyData.eqvAll]
  exact ⟨fun h => eq_dataH ra rb sh sh hu (by rw [ev]; exact h), fun h => ne_dataH ra rb sh sh hu (by rw [ev]; exact h)⟩)
 | fail))
end
theorem roleAt_ix {r : Str} (h : isRole r = true) : roleAt (roleIx r) = r := by
  rcases isRole_cases h with rfl | rfl | rfl | rfl <;> decide +kernel
theorem oct_role {r : Str} {f1 f2 f3 f4 f5 : Bool} (h : isRole r = true) : roleAt ((4 * roleIx r + flagSum f1 f2 f3 f4 f5) / 4 % 4) = r := by
  have a : (4 * roleIx r + flagSum f1 f2 f3 f4 f5) / 4 % 4 = roleIx r := by
    have b := @roleIx_in r
    rcases cases4 b.1 b.2 with e | e | e | e <;> rw [e] <;> (revert f1 f2 f3 f4 f5; decide)
  rw [a, roleAt_ix h]
theorem oct_bits {r : Str} {f1 f2 f3 f4 f5 : Bool} : bitAt (4 * roleIx r + flagSum f1 f2 f3 f4 f5) 1 = f1 ∧ bitAt (4 * roleIx r + flagSum f1 f2 f3 f4 f5) 2 = f2 ∧ bitAt (4 * roleIx r + flagSum f1 f2 f3 f4 f5) 16 = f3 ∧ bitAt (4 * roleIx r + flagSum f1 f2 f3 f4 f5) 32 = f4 ∧ bitAt (4 * roleIx r + flagSum f1 f2 f3 f4 f5) 64 = f5 := by
  have b := @roleIx_in r
  rcases cases4 b.1 b.2 with e | e | e | e <;> rw [e] <;> (revert f1 f2 f3 f4 f5; decide)
end toldeq
theorem bytes_absurd {a b : Array UInt8} {l : List Int} (h : (a.toList == b.toList) = false) (h1 : KBw.bInts a = l) (h2 : KBw.bInts b = l) : False := by
  have e := bInts_inj (h1.trans h2.symm)
  subst e
  simp at h
theorem rb_low {low mac cost prio port hops : Int} {l' : Int} (hr : 0 ≤ low ∧ low < 65536 ∧ 0 ≤ mac ∧ mac < 281474976710656 ∧ 0 ≤ cost ∧ cost < 4294967296 ∧ 0 ≤ prio / 256 ∧ prio / 256 < 256 ∧ 0 ≤ port ∧ port < 256 ∧ 0 ≤ hops ∧ hops < 256) (e2 : l' = low / 256 % 256 * 256 + low % 256) : l' = low := by
  obtain ⟨a, b, _⟩ := hr
  rw [e2, dtop 65536 (by decide) a b (by decide), dlast]
theorem rb_inst {inst low mac cost prio port hops : Int} {role : Str} {l' i' : Int} (hi : IsRow inst low prio port role) (hr : 0 ≤ low ∧ low < 65536 ∧ 0 ≤ mac ∧ mac < 281474976710656 ∧ 0 ≤ cost ∧ cost < 4294967296 ∧ 0 ≤ prio / 256 ∧ prio / 256 < 256 ∧ 0 ≤ port ∧ port < 256 ∧ 0 ≤ hops ∧ hops < 256) (e2 : l' = low / 256 % 256 * 256 + low % 256) (e3 : i' = l' % 4096) : i' = inst := by
  have e := rb_low hr e2
  rw [e3, e]
  exact hi.2.2.2.1
theorem rb_mac {low mac cost prio port hops : Int} {m' : Int} (hr : 0 ≤ low ∧ low < 65536 ∧ 0 ≤ mac ∧ mac < 281474976710656 ∧ 0 ≤ cost ∧ cost < 4294967296 ∧ 0 ≤ prio / 256 ∧ prio / 256 < 256 ∧ 0 ≤ port ∧ port < 256 ∧ 0 ≤ hops ∧ hops < 256) (e : m' = mac / 1099511627776 % 256 * 1099511627776 + mac / 4294967296 % 256 * 4294967296 + mac / 16777216 % 256 * 16777216 + mac / 65536 % 256 * 65536 + mac / 256 % 256 * 256 + mac % 256) : m' = mac := by
  obtain ⟨_, _, a, b, _⟩ := hr
  rw [e, dtop 281474976710656 (by decide) a b (by decide), dstep mac 4294967296 1099511627776 (by decide) (by decide), dstep mac 16777216 4294967296 (by decide) (by decide), dstep mac 65536 16777216 (by decide) (by decide), dstep mac 256 65536 (by decide) (by decide), dlast]
theorem rb_cost {low mac cost prio port hops : Int} {m' : Int} (hr : 0 ≤ low ∧ low < 65536 ∧ 0 ≤ mac ∧ mac < 281474976710656 ∧ 0 ≤ cost ∧ cost < 4294967296 ∧ 0 ≤ prio / 256 ∧ prio / 256 < 256 ∧ 0 ≤ port ∧ port < 256 ∧ 0 ≤ hops ∧ hops < 256) (e : m' = cost / 16777216 % 256 * 16777216 + cost / 65536 % 256 * 65536 + cost / 256 % 256 * 256 + cost % 256) : m' = cost := by
  obtain ⟨_, _, _, _, a, b, _⟩ := hr
  rw [e, dtop 4294967296 (by decide) a b (by decide), dstep cost 65536 16777216 (by decide) (by decide), dstep cost 256 65536 (by decide) (by decide), dlast]
theorem rb_prio {inst low prio port : Int} {role : Str} {m' : Int} (hi : IsRow inst low prio port role) (e : m' = prio / 256 / 16 * 4096) : m' = prio := by
  have k := hi.2.2.2.2.1
  omega
theorem rb_port {inst low prio port : Int} {role : Str} {m' : Int} (hi : IsRow inst low prio port role) (e : m' = port / 16 * 16) : m' = port := by
  have k := hi.2.2.2.2.2
  omega
end
section
set_option maxHeartbeats 4000000
section lawat
open PySem
theorem turn0_fr {h₀ g h : Heap} {L : Addr} {m : Str → Option Value} (T : KtsTurn [] h₀ g) (F : Fr g L h m) : Fr h₀ L h m :=
  ⟨F.ns, fun b o e => F.keep _ _ (T.other b o e (fun q => nomatch q)), by rw [← T.size]; exact F.above⟩
theorem turn0_news {h₀ g h : Heap} {L : Addr} {led : Led} (T : KtsTurn [] h₀ g) (N : News g L h led) : News h₀ L h led := fun p hp => ⟨(N p hp).1, (N p hp).2.1, by
  cases q : h₀.get? p.1 with
  | none => rfl
  | some o =>
    have := T.other _ _ q (fun z => nomatch z)
    rw [(N p hp).2.2] at this
    cases this⟩
theorem poolAt {w : World} {p : Program} {loose : List Str} {mean : ExcName → Option Value} {mg mb : Str → Option Value}
  {dp un : Nat} {gd : Option (List Code)} {cn : Str} {cs : Scope} {a : Addr} {ccd : Value} {cl : List (Str × Addr)} {outer : List Env} {A₀ : Around} {base h₀ : Heap} {L : Addr} {m : Str → Option Value} {s : Shared} {Q E : Value → Shared → Prop}
  {scr : Addr} {vs : List Value} {ns : List Int} {tm : Tok} {oc : Obj} {led r1 r2 : Led}
  (B : Below A₀ base outer h₀) (F : Fr h₀ L s.heap m) (X : (KH w.params).In h₀) (N : News h₀ L s.heap led) (T : Top p loose mean mg mb h₀) (hk : cs.kind = .function) (w1 : Without (L + 1) oc led r1) (w2 : Without 235 (tabObj #[]) led r2)
  (hs : h₀.IsList scr vs.toArray) (hI : IntsAre vs ns) (hlen : ns.length ≤ 63) (hd : dp + 30 < recursionLimit) (hu : un + 300 < cLine)
  (ret : ∀ (D : Addr) (x y : Int) (tx ty : Tok) (h' : Heap) (tk' : Nat), Fr h₀ L h' m → News h₀ L h' [(D, pool x y tx ty 0), (L + 1, oc), (235, tabObj #[])] → 0 ≤ x ∧ 0 ≤ y ∧ y < 2147483647 → @Ne Nat D (L + 1) → @Ne Nat D 235 → Q (.ref D) { s with heap := h', toks := tk' }) :
  wpAny (model prg w) (ktrTop dp un gd cn cs L a ccd cl outer) (call (.ref (k_addr% "_law_pool")) [.ref scr, .int 0 tm]) Q E s :=
  poolc dp un gd cn cs a ccd cl outer A₀ base h₀ L m s Q E [(L + 1, oc), (235, tabObj #[])] scr vs ns tm B F X (fun q hq => N q (by
    rcases List.mem_cons.mp hq with rfl | hq
    · exact mem_pick w1
    · rw [List.mem_singleton.mp hq]; exact mem_pick w2)) T hk hs hI hlen hd hu (fun D x y tx ty h' tk' F' N' P' O' => ret D x y tx ty h' tk' F' N' P' (Ne.symm (O' _ (.head _))) (Ne.symm (O' _ (.tail _ (.head _)))))
theorem vrightAt {w : World} {p : Program} {loose : List Str} {mean : ExcName → Option Value} {mg mb : Str → Option Value}
  {dp un : Nat} {gd : Option (List Code)} {cn : Str} {cs : Scope} {a : Addr} {ccd : Value} {cl : List (Str × Addr)} {outer : List Env} {A₀ : Around} {base h₀ : Heap} {L : Addr} {m : Str → Option Value} {s : Shared} {Q E : Value → Shared → Prop}
  {src : Addr} {x y : Int} {tx ty : Tok} {n : Nat} {all rest : Led}
  (F : Fr h₀ L s.heap m) (B : Below A₀ base outer h₀) (X : (KH w.params).In h₀) (N : News h₀ L s.heap all) (wo : Without src (pool x y tx ty n) all rest) (hne : ∀ p ∈ rest, p.1 ≠ src)
  (T : Top p loose mean mg mb h₀) (hk : cs.kind = .function) (hp : 0 ≤ x ∧ 0 ≤ y ∧ y < 2147483647) (hd : dp + 60 < recursionLimit) (hu : un + 800 < cLine)
  (ret : ∀ (x' y' : Int) (tx' ty' : Tok) (h' : Heap) (tk' : Nat), Fr h₀ L h' m → News h₀ L h' ((src, pool x' y' tx' ty' n) :: rest) → 0 ≤ x' ∧ 0 ≤ y' ∧ y' < 2147483647 → Q (.bool true) { s with heap := h', toks := tk' }) :
  wpAny (model prg w) (ktrTop dp un gd cn cs L a ccd cl outer) (call (.ref (k_addr% "_law_vectors_right")) [.ref src]) Q E s :=
  vright dp un gd cn cs a ccd cl outer A₀ base h₀ L m s Q E rest src x y tx ty n B F X (fun q hq => N q (wo.sub q hq)) T hk hne hp hd hu ret
end lawat
end
section
set_option maxHeartbeats 4000000
theorem oneD_byte {w : World} {p : Program} {loose : List Str} {mean : ExcName → Option Value} {mg mb : Str → Option Value}
  {dp un : Nat} {gd : Option (List Code)} {cn : Str} {cs : Scope} {a : Addr} {ccd : Value} {cl : List (Str × Addr)} {outer : List Env} {A₀ : Around} {base h₀ : Heap} {L : Addr} {m : Str → Option Value} {s : Shared} {Q E : Value → Shared → Prop}
  {src th : Addr} {x y d : Int} {tx ty ta tb tc : Tok} {n n1 : Nat} {all rest r' : Led}
  (F : Fr h₀ L s.heap m) (B : Below A₀ base outer h₀) (X : (KH w.params).In h₀) (N : News h₀ L s.heap all) (wo : Without src (pool x y tx ty n) all rest) (hm : Without th (listOf #[.int 0 ta, .int 255 tb, .int d tc] n1) rest r') (hne : ∀ p ∈ rest, p.1 ≠ src)
  (T : Top p loose mean mg mb h₀) (hk : cs.kind = .function) (hp : 0 ≤ x ∧ 0 ≤ y ∧ y < 2147483647) (h0 : 0 ≤ d) (h1 : d < 256)
  (hd : dp + 10 < recursionLimit) (hu : un + 100 < cLine)
  (ret : ∀ (k : Int) (t : Tok) (x' y' : Int) (tx' ty' : Tok) (h' : Heap) (tk' : Nat), 0 ≤ k → k < 256 → Fr h₀ L h' m → News h₀ L h' ((src, pool x' y' tx' ty' n) :: r') → 0 ≤ x' ∧ 0 ≤ y' ∧ y' < 2147483647 → (∀ p ∈ r', p.1 ≠ src) → Q (.int k t) { s with heap := h', toks := tk' }) :
  wpAny (model prg w) (ktrTop dp un gd cn cs L a ccd cl outer) (call (.ref (k_addr% "_law_one")) [.ref src, .ref th]) Q E s :=
  oneD_any (vs := [.int 0 ta, .int 255 tb, .int d tc]) F B X N wo hm hne T hk hp (by simp) (by simp) hd hu (fun v x' y' tx' ty' h' tk' hv F' N' P' ne => by
    simp only [List.mem_cons, List.not_mem_nil, or_false] at hv
    rcases hv with rfl | rfl | rfl
    · exact ret _ _ x' y' tx' ty' h' tk' (by decide) (by decide) F' N' P' ne
    · exact ret _ _ x' y' tx' ty' h' tk' (by decide) (by decide) F' N' P' ne
    · exact ret _ _ x' y' tx' ty' h' tk' h0 h1 F' N' P' ne)
theorem bis16 {a0 a1 a2 a3 a4 a5 a6 a7 a8 a9 a10 a11 a12 a13 a14 a15 : Int} (h : 0 ≤ a0 ∧ a0 < 256 ∧ 0 ≤ a1 ∧ a1 < 256 ∧ 0 ≤ a2 ∧ a2 < 256 ∧ 0 ≤ a3 ∧ a3 < 256 ∧ 0 ≤ a4 ∧ a4 < 256 ∧ 0 ≤ a5 ∧ a5 < 256 ∧ 0 ≤ a6 ∧ a6 < 256 ∧ 0 ≤ a7 ∧ a7 < 256 ∧ 0 ≤ a8 ∧ a8 < 256 ∧ 0 ≤ a9 ∧ a9 < 256 ∧ 0 ≤ a10 ∧ a10 < 256 ∧ 0 ≤ a11 ∧ a11 < 256 ∧ 0 ≤ a12 ∧ a12 < 256 ∧ 0 ≤ a13 ∧ a13 < 256 ∧ 0 ≤ a14 ∧ a14 < 256 ∧ 0 ≤ a15 ∧ a15 < 256) : KBw.bInts #[a0.toNat.toUInt8, a1.toNat.toUInt8, a2.toNat.toUInt8, a3.toNat.toUInt8, a4.toNat.toUInt8, a5.toNat.toUInt8, a6.toNat.toUInt8, a7.toNat.toUInt8, a8.toNat.toUInt8, a9.toNat.toUInt8, a10.toNat.toUInt8, a11.toNat.toUInt8, a12.toNat.toUInt8, a13.toNat.toUInt8, a14.toNat.toUInt8, a15.toNat.toUInt8] = [a0, a1, a2, a3, a4, a5, a6, a7, a8, a9, a10, a11, a12, a13, a14, a15] := (by exact use_of : Use _ (by
 first
 | (
  show [((a0.toNat.toUInt8.toNat : Nat) : Int), ((a1.toNat.toUInt8.toNat : Nat) : Int), ((a2.toNat.toUInt8.toNat : Nat) : Int), ((a3.toNat.toUInt8.toNat : Nat) : Int), ((a4.toNat.toUInt8.toNat : Nat) : Int), ((a5.toNat.toUInt8.toNat : Nat) : Int), ((a6.toNat.toUInt8.toNat : Nat) : Int), ((a7.toNat.toUInt8.toNat : Nat) : Int), ((a8.toNat.toUInt8.toNat : Nat) : Int), ((a9.toNat.toUInt8.toNat : Nat) : Int), ((a10.toNat.toUInt8.toNat : Nat) : Int), ((a11.toNat.toUInt8.toNat : Nat) : Int), ((a12.toNat.toUInt8.toNat : Nat) : Int), ((a13.toNat.toUInt8.toNat : Nat) : Int), ((a14.toNat.toUInt8.toNat : Nat) : Int), ((a15.toNat.toUInt8.toNat : Nat) : Int)] = _
  obtain ⟨l0, u0, l1, u1, l2, u2, l3, u3, l4, u4, l5, u5, l6, u6, l7, u7, l8, u8, l9, u9, l10, u10, l11, u11, l12, u12, l13, u13, l14, u14, l15, u15⟩ := h
  rw [byte_back (n := a0) l0 u0, byte_back (n := a1) l1 u1, byte_back (n := a2) l2 u2, byte_back (n := a3) l3 u3, byte_back (n := a4) l4 u4, byte_back (n := a5) l5 u5, byte_back (n := a6) l6 u6, byte_back (n := a7) l7 u7, byte_back (n := a8) l8 u8, byte_back (n := a9) l9 u9, byte_back (n := a10) l10 u10, byte_back (n := a11) l11 u11, byte_back (n := a12) l12 u12, byte_back (n := a13) l13 u13, byte_back (n := a14) l14 u14, byte_back (n := a15) l15 u15])
 | fail))
end
section
set_option maxHeartbeats 800000
theorem wdsL67 : True := by
  k_with "getMethod type:Exception" =>
    fail_if_success (k_extra "off L67")
    ((k_here; refine' method_type ?z1144F ?z1144X ?z1144m (by decide +kernel) ?z1144e ?z1144h ?_; (case z1144F => k_asm); (case z1144X => k_asm); (case z1144m => exact exc_meta); (case z1144e => k_dflt k_is); (case z1144h => k_handed)))
  k_with "call builtin:Exception.__init__" =>
    fail_if_success (k_extra "off L67")
    ((k_here; (refine' size_init ?z6371F ?z6371N ?z6371n ?z6371X ?_; (case z6371F => k_asm); (case z6371N => k_asm); (case z6371n => assumption); (case z6371X => k_asm); k_whole); intro t' h' F' N' ne' nt'; (try dsimp only)))
  k_with "setAttr ref" =>
    fail_if_success (k_extra "off L67")
    ((k_here; (with_reducible show wpAny _ _ (setAttr (Value.ref _) ("message" : Str) _) _ _ _); (refine' size_store ?z3836F ?z3836N ?z3836n ?z3836X ?_; (case z3836F => k_asm); (case z3836N => k_asm); (case z3836n => assumption); (case z3836X => k_asm); k_whole); intro dx' h' tk' F' N'; (try dsimp only)))
  k_with "exec Raise some none" =>
    fail_if_success (k_extra "off L67")
    ((k_here; (with_reducible show wpAny _ _ (exec (Stmt.Raise (some (Expr.Call (Expr.Name ("SizeError" : Str) _) (_ :: _) [] _)) none _) _) _ _ _); k_dflt (refine' size_raise ?z1466B ?z1466F ?z1466X ?z1466T ?z1466hd ?z1466hu ?z1466hA ?_ ?z1466a ?z1466b ?z1466c ?z1466d; (case z1466hA => rfl); (case z1466B => assumption); (case z1466F => k_asm); (case z1466X => k_asm); (case z1466T => k_asm); (case z1466hd => ktr_room); (case z1466hu => ktr_room); (case z1466a => first | with_reducible exact star_bin | rfl); (case z1466b => rfl); (case z1466c => rfl); (case z1466d => rfl); k_whole)))
  k_with "SizeEnd" =>
    fail_if_success (k_extra "off L67")
    ((k_here; (refine' SizeEnd.intro ?z358F ?z358N ?_; (case z358F => k_asm); (case z358N => k_asm)); intro e' t' dx' h' tk' F' N' ne'; (try dsimp only)))
  k_with "leaving ref" =>
    fail_if_success (k_extra "off L67")
    ((k_here; first
      | (refine' leave_on ?z8181K ?z8181F ?z8181R ?z8181U ?_ ?z8181f; (case z8181R => assumption); (case z8181K => assumption); (case z8181F => assumption); (case z8181U => assumption); (case z8181f => rfl); k_whole; intro h' R' U'; (try dsimp only at R' U' ⊢))
      | (refine' leave_size ?z8181K ?z8181F ?z8181N ?z8181n ?_ ?z8181f ?z8181h; (case z8181K => assumption); (case z8181F => k_asm); (case z8181N => k_asm); (case z8181n => assumption); (case z8181f => rfl); (case z8181h => first | rfl | assumption); k_whole; intro h' R' U'; (try dsimp only at R' U' ⊢))))
  k_with "compareOp NotIn str ref" =>
    fail_if_success (k_extra "off L67")
    ((k_here; (with_reducible show wpAny _ _ (compareOp CmpOp.NotIn (Value.str _ _) (Value.ref 73)) _ _ _); (refine' role_notin ?z9558X ?_; (case z9558X => k_in); k_whole)))
  k_with "noteFrame ref" =>
    fail_if_success (k_extra "off L67")
    ((k_here; (rename RaisedS _ _ _ _ _ _ _ _ _ => rkX); (with_reducible show wpAny _ _ (noteFrame _ _) (fun _ s₂ => wpAny _ _ (setFlight _ none) (fun _ s₃ => wpAny _ _ (handleBy _ _ (ExceptHandler.ExceptHandler (some (Expr.Name ("SizeError" : Str) _)) none _ _ :: _)) _ _ s₃) _ s₂) _ _); k_dflt (refine' caught_SO0 (C := 44) ?z7688R ?z7688F ?z7688K ?z7688U ?z7688XB ?z7688TB ?z7688D ?z7688T0 ?z7688ex ?z7688q ?_; (case z7688R => exact rkX); (case z7688F => assumption); (case z7688K => assumption); (case z7688U => assumption); (case z7688XB => assumption); (case z7688TB => assumption); (case z7688D => assumption); (case z7688T0 => exact KtsTurn.refl); (case z7688ex => k_is); (case z7688q => decide +kernel)); intro h' g' n2' TT' F' N2' G' N' B' X' T' D'))
  trivial
theorem refused {w : World} {p : Program} {loose : List Str} {mean : ExcName → Option Value} {mg mb : Str → Option Value}
  (dp un : Nat) (gd : Option (List Code)) (cn : Str) (cs : Scope) (a : Addr) (ccd : Value) (cl : List (Str × Addr)) (outer : List Env) (A₀ : Around) (base h₀ : Heap) (L : Addr) (m : Str → Option Value) (s : Shared) (Q E : Value → Shared → Prop)
  (led : Led) (f : Addr) (ok : Bool) (fo : Obj) (fd : FuncData)
  (B : Below A₀ base outer h₀) (F : Fr h₀ L s.heap m) (X : (KH w.params).In h₀) (N : News h₀ L s.heap (led))
  (T : Top p loose mean mg mb h₀) (hk : cs.kind = .function) (hf : (f, fo) ∈ led) (hfd : fo.data = .func fd) (XB : (KH w.params).In base) (TB : Top p loose mean mg mb base) (D : KtsDicts (outer.filterMap (·.frame)) h₀)
  (hcall : ∀ (dp un : Nat) (gd : Option (List Code)) (cn : Str) (cs : Scope) (a : Addr) (ccd : Value) (cl : List (Str × Addr)) (outer : List Env) (A₀ : Around) (base h₀ : Heap) (L : Addr) (m : Str → Option Value) (s : Shared) (Q E : Value → Shared → Prop),
    Below A₀ base outer h₀ → Fr h₀ L s.heap m → (KH w.params).In h₀ → News h₀ L s.heap led → Top p loose mean mg mb h₀ → cs.kind = .function → dp + 70 < recursionLimit → un + 600 < cLine →
    (ok = true → ∀ (v : Value) (h' : Heap) (tk' : Nat), Fr h₀ L h' m → News h₀ L h' led → Q v { s with heap := h', toks := tk' }) →
    (ok = false → ∀ (e t : Addr) (vs : List Value) (g₂ h' : Heap) (tk' : Nat), Fr h₀ L g₂ m → g₂.UpToSlots h' → RaisedS base g₂ (envX cn cs L a ccd cl :: outer) e (.ref 44) t vs led h' → E (.ref e) { s with heap := h', toks := tk' }) →
    wpAny (model prg w) (ktrTop dp un gd cn cs L a ccd cl outer) (call (.ref f) []) Q E s)
  (hd : dp + 80 < recursionLimit) (hu : un + 700 < cLine)
  (ret : ∀ (h₀' h' : Heap) (tk' : Nat), KtsTurn (outer.filterMap (·.frame)) h₀ h₀' → Fr h₀' L h' m → News h₀' L h' led → Below A₀ base outer h₀' → Q (.bool (!ok)) { s with heap := h', toks := tk' }):
  wpAny (model prg w) (ktrTop dp un gd cn cs L a ccd cl outer) (call (.ref (k_addr% "_law_is_refused")) [.ref f]) Q E s := (by exact use_of : Use _ (by
 first
 | (
  refine wpAny_call ?_
  k_dflt (refine' code_defT ?k1 ?k2 ?k3 ?k4 ?k5 ?kD ?kA ?kF ?kK ?k6 ?k7 ?k8 ?k9 ?kB ?_ ?c2 ?c3 ?c4 ?c5; (case kA => exact rfl); (case kF => exact rfl); (case kK => first | exact rfl | assumption); (case k1 => k_asm); (case k2 => k_asm); (case k3 => k_asm); (case k4 => k_asm); (case k5 => k_asm); (case kD => assumption); (case k6 => k_is); (case k7 => k_is); (case k8 => ktr_room); (case k9 => first | exact BindsTo.of_eq rfl | exact binds_K (by k_in) rfl (by k_is) rfl rfl rfl); (case c5 => decide); (case kB => exact locs rfl); (case c2 => exact rfl); (case c3 => exact rfl); (case c4 => exact rfl); k_whole; intro g' L' h' FG' F' N' B' X' T' D'; (try dsimp only); (try k_lift B'); (try k_fold))
  k_steps
  refine callWith_F0 (by obtain ⟨oc, od, dt, sl⟩ := fo; obtain rfl : dt = _ := hfd; exact ⟨oc, od, fd, sl, (N' _ hf).1⟩) ?_
  k_dflt (refine' hcall _ _ _ _ _ _ _ _ _ _ _ _ _ _ _ _ _ ?cB ?cF ?cX ?cN ?cT ?cK ?cd ?cu (fun hok v' h' tk' F' N' => ?_) (fun hok e' t' vs' g2' h' tk' Fg' U' R' => ?_); (case cF => k_asm); (case cB => k_asm); (case cX => k_asm); (case cN => k_asm); (case cT => k_asm); (case cK => rfl); (case cd => ktr_room); (case cu => ktr_room))
  all_goals (try dsimp only)
  all_goals k_steps
  all_goals (show LeaveT _ _ _ _ _ _ _ _ _ _ _; refine LeaveT.intro (news' := led) (by first | assumption | exact KtsTurn.refl) (by k_asm) (by assumption) (fun h2 T2 F2 N2 B2 => ?_); subst hok; exact ret _ _ _ T2 F2 N2 B2))
 | fail))
theorem wdoL67 : True := by
  k_with "off L67" => skip
  trivial
end
section
set_option maxHeartbeats 4000000
theorem wdsL73 : True := by
  k_with "call ref" =>
    fail_if_success (k_extra "off L73")
    ((k_here; (with_reducible show wpAny _ _ (call (Value.ref 51) [Value.int _ _, Value.int 1 _]) _ _ _); k_dflt (focus (refine' oct1 _ _ _ _ _ _ _ _ _ _ _ _ _ _ _ _ _ _ _ _ _ ?z1596cB ?z1596cF ?z1596cX ?z1596cN ?z1596cT ?z1596cK  ?z1596cd ?z1596cu (fun k0' k1' b' t' h' tk' hb' F' N' => ?_) (fun h9' e' t' vs' g2' h' tk' F' U' R' => ?_); (case z1596cF => k_asm); (case z1596cB => k_asm); (case z1596cX => k_asm); (case z1596cN => k_asm); (case z1596cT => k_asm); (case z1596cK => first | exact rfl | assumption);  (case z1596cd => ktr_room); (case z1596cu => ktr_room); all_goals (try dsimp only)))))
  k_with "call ref" =>
    fail_if_success (k_extra "off L73")
    ((k_here; (with_reducible show wpAny _ _ (call (Value.ref 51) [Value.int _ _, Value.int 2 _]) _ _ _); k_dflt (focus (refine' oct2 _ _ _ _ _ _ _ _ _ _ _ _ _ _ _ _ _ _ _ _ _ ?z4531cB ?z4531cF ?z4531cX ?z4531cN ?z4531cT ?z4531cK  ?z4531cd ?z4531cu (fun k0' k1' b' t' h' tk' hb' F' N' => ?_) (fun h9' e' t' vs' g2' h' tk' F' U' R' => ?_); (case z4531cF => k_asm); (case z4531cB => k_asm); (case z4531cX => k_asm); (case z4531cN => k_asm); (case z4531cT => k_asm); (case z4531cK => first | exact rfl | assumption);  (case z4531cd => ktr_room); (case z4531cu => ktr_room); all_goals (try dsimp only)))))
  k_with "call ref" =>
    fail_if_success (k_extra "off L73")
    ((k_here; (with_reducible show wpAny _ _ (call (Value.ref 51) [Value.int _ _, Value.int 4 _]) _ _ _); k_dflt (focus (refine' oct4 _ _ _ _ _ _ _ _ _ _ _ _ _ _ _ _ _ _ _ _ _ ?z5016cB ?z5016cF ?z5016cX ?z5016cN ?z5016cT ?z5016cK  ?z5016cd ?z5016cu (fun k0' k1' b' t' h' tk' hb' F' N' => ?_) (fun h9' e' t' vs' g2' h' tk' F' U' R' => ?_); (case z5016cF => k_asm); (case z5016cB => k_asm); (case z5016cX => k_asm); (case z5016cN => k_asm); (case z5016cT => k_asm); (case z5016cK => first | exact rfl | assumption);  (case z5016cd => ktr_room); (case z5016cu => ktr_room); all_goals (try dsimp only)))))
  k_with "call ref" =>
    fail_if_success (k_extra "off L73")
    ((k_here; (with_reducible show wpAny _ _ (call (Value.ref 51) [Value.int _ _, Value.int 6 _]) _ _ _); k_dflt (focus (refine' oct6 _ _ _ _ _ _ _ _ _ _ _ _ _ _ _ _ _ _ _ _ _ ?z2799cB ?z2799cF ?z2799cX ?z2799cN ?z2799cT ?z2799cK  ?z2799cd ?z2799cu (fun k0' k1' b' t' h' tk' hb' F' N' => ?_) (fun h9' e' t' vs' g2' h' tk' F' U' R' => ?_); (case z2799cF => k_asm); (case z2799cB => k_asm); (case z2799cX => k_asm); (case z2799cN => k_asm); (case z2799cT => k_asm); (case z2799cK => first | exact rfl | assumption);  (case z2799cd => ktr_room); (case z2799cu => ktr_room); all_goals (try dsimp only)))))
  k_with "call ref" =>
    fail_if_success (k_extra "off L73")
    ((k_here; (with_reducible show wpAny _ _ (call (Value.ref (k_addr% "_law_big")) [Value.int _ _, Value.int 2 _]) _ _ _); k_dflt (focus (refine' big2 _ _ _ _ _ _ _ _ _ _ _ _ _ _ _ _ _ _ _ _ _ ?z551cB ?z551cF ?z551cX ?z551cN ?z551cT ?z551cK ?z551k0 ?z551k1 ?z551cd ?z551cu (fun b' t' h' tk' hb' F' N' => ?_); (case z551cF => k_asm); (case z551cB => k_asm); (case z551cX => k_asm); (case z551cN => k_asm); (case z551cT => k_asm); (case z551cK => first | exact rfl | assumption); (case z551k0 => omega); (case z551k1 => omega); (case z551cd => ktr_room); (case z551cu => ktr_room); all_goals (try dsimp only)))))
  k_with "call ref" =>
    fail_if_success (k_extra "off L73")
    ((k_here; (with_reducible show wpAny _ _ (call (Value.ref (k_addr% "_law_big")) [Value.int _ _, Value.int 4 _]) _ _ _); k_dflt (focus (refine' big4 _ _ _ _ _ _ _ _ _ _ _ _ _ _ _ _ _ _ _ _ _ ?z4165cB ?z4165cF ?z4165cX ?z4165cN ?z4165cT ?z4165cK ?z4165k0 ?z4165k1 ?z4165cd ?z4165cu (fun b' t' h' tk' hb' F' N' => ?_); (case z4165cF => k_asm); (case z4165cB => k_asm); (case z4165cX => k_asm); (case z4165cN => k_asm); (case z4165cT => k_asm); (case z4165cK => first | exact rfl | assumption); (case z4165k0 => omega); (case z4165k1 => omega); (case z4165cd => ktr_room); (case z4165cu => ktr_room); all_goals (try dsimp only)))))
  k_with "call ref" =>
    fail_if_success (k_extra "off L73")
    ((k_here; (with_reducible show wpAny _ _ (call (Value.ref (k_addr% "_law_big")) [Value.int _ _, Value.int 6 _]) _ _ _); k_dflt (focus (refine' big6 _ _ _ _ _ _ _ _ _ _ _ _ _ _ _ _ _ _ _ _ _ ?z1573cB ?z1573cF ?z1573cX ?z1573cN ?z1573cT ?z1573cK ?z1573k0 ?z1573k1 ?z1573cd ?z1573cu (fun b' t' h' tk' hb' F' N' => ?_); (case z1573cF => k_asm); (case z1573cB => k_asm); (case z1573cX => k_asm); (case z1573cN => k_asm); (case z1573cT => k_asm); (case z1573cK => first | exact rfl | assumption); (case z1573k0 => omega); (case z1573k1 => omega); (case z1573cd => ktr_room); (case z1573cu => ktr_room); all_goals (try dsimp only)))))
  k_with "call ref" =>
    fail_if_success (k_extra "off L73")
    ((k_here; (with_reducible show wpAny _ _ (call (Value.ref (k_addr% "octets_number")) [Value.bytes _ _]) _ _ _); k_dflt (focus (refine' num2 _ _ _ _ _ _ _ _ _ _ _ _ _ _ _ _ _ _ _ _ _ _ ?z4632cB ?z4632cF ?z4632cX ?z4632cN ?z4632cT ?z4632cK ?z4632hb ?z4632cd ?z4632cu (fun t' h' tk' F' N' => ?_); (case z4632cF => k_asm); (case z4632cB => k_asm); (case z4632cX => k_asm); (case z4632cN => k_asm); (case z4632cT => k_asm); (case z4632cK => first | exact rfl | assumption); (case z4632hb => assumption); (case z4632cd => ktr_room); (case z4632cu => ktr_room); all_goals (try dsimp only)))))
  k_with "call ref" =>
    fail_if_success (k_extra "off L73")
    ((k_here; (with_reducible show wpAny _ _ (call (Value.ref (k_addr% "octets_number")) [Value.bytes _ _]) _ _ _); k_dflt (focus (refine' num4 _ _ _ _ _ _ _ _ _ _ _ _ _ _ _ _ _ _ _ _ _ _ _ _ ?z6683cB ?z6683cF ?z6683cX ?z6683cN ?z6683cT ?z6683cK ?z6683hb ?z6683cd ?z6683cu (fun t' h' tk' F' N' => ?_); (case z6683cF => k_asm); (case z6683cB => k_asm); (case z6683cX => k_asm); (case z6683cN => k_asm); (case z6683cT => k_asm); (case z6683cK => first | exact rfl | assumption); (case z6683hb => assumption); (case z6683cd => ktr_room); (case z6683cu => ktr_room); all_goals (try dsimp only)))))
  k_with "call ref" =>
    fail_if_success (k_extra "off L73")
    ((k_here; (with_reducible show wpAny _ _ (call (Value.ref (k_addr% "octets_number")) [Value.bytes _ _]) _ _ _); k_dflt (focus (refine' num6 _ _ _ _ _ _ _ _ _ _ _ _ _ _ _ _ _ _ _ _ _ _ _ _ _ _ ?z9845cB ?z9845cF ?z9845cX ?z9845cN ?z9845cT ?z9845cK ?z9845hb ?z9845cd ?z9845cu (fun t' h' tk' F' N' => ?_); (case z9845cF => k_asm); (case z9845cB => k_asm); (case z9845cX => k_asm); (case z9845cN => k_asm); (case z9845cT => k_asm); (case z9845cK => first | exact rfl | assumption); (case z9845hb => assumption); (case z9845cd => ktr_room); (case z9845cu => ktr_room); all_goals (try dsimp only)))))
  k_with "call ref" =>
    fail_if_success (k_extra "off L73")
    ((k_here; (with_reducible show wpAny _ _ (call (Value.ref 119) [Value.ref _]) _ _ _); k_dflt (focus (refine' chk_row _ _ _ _ _ _ _ _ _ _ _ _ _ _ _ _ _ _ _ _ _ _ _ _ _ _ _ _ _ _ _ _ _ _ _ _ _ _ _ _ _ _ _ _ _ _ ?z6002cB ?z6002cF ?z6002cX ?z6002cN ?z6002cT ?z6002cK ?z6002h1 ?z6002h2 ?z6002h3 ?z6002cd ?z6002cu (fun hrow' h' tk' F' N' => ?_) (fun h9' e' t' vs' g2' h' tk' F' U' R' => ?_); (case z6002cF => k_asm); (case z6002cB => k_asm); (case z6002cX => k_asm); (case z6002cN => k_asm); (case z6002cT => k_asm); (case z6002cK => first | exact rfl | assumption); (case z6002h1 => k_mem); (case z6002h2 => k_mem); (case z6002h3 => k_mem); (case z6002cd => ktr_room); (case z6002cu => ktr_room); all_goals (try dsimp only)))))
  k_with "call ref" =>
    fail_if_success (k_extra "off L73")
    ((k_here; (with_reducible show wpAny _ _ (call (Value.ref 65) [Value.ref _]) _ _ _); k_dflt (focus (refine' bridge _ _ _ _ _ _ _ _ _ _ _ _ _ _ _ _ _ _ _ _ _ _ _ ?z7065cB ?z7065cF ?z7065cX ?z7065cN ?z7065cT ?z7065cK ?z7065h1 ?z7065cd ?z7065cu (fun k0' k1' k2' k3' b' t' h' tk' hb' F' N' => ?_) (fun h9' e' t' vs' g2' h' tk' F' U' R' => ?_); (case z7065cF => k_asm); (case z7065cB => k_asm); (case z7065cX => k_asm); (case z7065cN => k_asm); (case z7065cT => k_asm); (case z7065cK => first | exact rfl | assumption); (case z7065h1 => k_mem); (case z7065cd => ktr_room); (case z7065cu => ktr_room); all_goals (try dsimp only)))))
  k_with "getMethod ref" =>
    fail_if_success (k_extra "off L73")
    ((k_here; (with_reducible show wpAny _ _ (getMethod (Value.ref 73) (PySem.Str.ofString "index") _) _ _ _); k_dflt (refine' tup_method ?z7467X ?_; (case z7467X => k_in))))
  k_with "call builtin:tuple.index" =>
    fail_if_success (k_extra "off L73")
    ((k_here; (with_reducible show wpAny _ _ (call (Value.builtin _) [Value.ref 73, Value.str _ _]) _ _ _); k_dflt (refine' role_index_tuple ?z4001r ?z4001X ?_; (case z4001X => k_in); (case z4001r => first | assumption | exact (by assumption : IsRow _ _ _ _ _).1))))
  k_with "call builtin:list.index" =>
    fail_if_success (k_extra "off L73")
    ((k_here; (with_reducible show wpAny _ _ (call (Value.builtin _) [Value.ref _, Value.str _ _]) _ _ _); k_dflt (refine' role_index_list ?z2284r ?z2284N ?z2284m ?_; (case z2284N => k_asm); (case z2284m => k_mem); (case z2284r => first | assumption | exact (by assumption : IsRow _ _ _ _ _).1))))
  k_with "eval IfExp" =>
    fail_if_success (k_extra "off L73")
    ((k_here; refine IfStop.mk ?_))
  k_with "exec For Tuple Call cons nil" =>
    fail_if_success (k_extra "off L73")
    ((k_here; (rename Fr _ _ _ _ => lF'); (with_unfolding_all refine' For_turns lF' ?_; k_whole)))
  k_with "call type:zip" =>
    fail_if_success (k_extra "off L73")
    ((k_here; (with_reducible show wpAny _ _ (call (Value.type _) [Value.ref _, Value.ref _]) (fun xv s₁ => wpAny _ _ (pyIter xv) (fun it s₂ => TurnsAt _ _ _ _ _ _ _ _ _ it s₂) _ s₁) _ _); k_dflt (refine' ktu_zip ?z6299h ?z6299F ?z6299N ?z6299m1 ?z6299c1 ?z6299d1 ?z6299m2 ?z6299c2 ?z6299d2 ?_; (case z6299h => rfl); (case z6299F => k_asm); (case z6299N => k_asm); (case z6299m1 => k_mem); (case z6299c1 => rfl); (case z6299d1 => rfl); (case z6299m2 => k_mem); (case z6299c2 => rfl); (case z6299d2 => rfl); intro i' l1; (try k_lt l1); (try dsimp only [zipItems]))))
  k_with "newList" =>
    fail_if_success (k_extra "off L73")
    (k_here; k_dflt (refine' newList_L ?nl1 ?nl2 ?_; (case nl1 => k_asm); (case nl2 => k_asm); k_whole); intro l' h' F' o9 N' l1; (try k_lt l1); (try k_sweep))
  k_with "newTuple" =>
    fail_if_success (k_extra "off L73")
    (k_here; k_dflt (refine' newTuple_L ?nt1 ?nt2 ?_ ?nt3; (case nt1 => k_asm); (case nt2 => k_asm); (case nt3 => kmk_size)); intro D' h' F' o9 N' l1; (try k_lt l1); (try k_sweep))
  trivial
theorem laid_in {w : World} {p : Program} {loose : List Str} {mean : ExcName → Option Value} {mg mb : Str → Option Value}
  (κ : Cx) (A₀ : Around) (base h₀ : Heap) (m : Str → Option Value) (s : Shared) (Q E : Value → Shared → Prop)
  (led : Led) (fl rg : Addr) (inst low mac cost prio port hops : Int) (t1 t2 t3 t4 t5 t6 t7 t8 : Tok) (role : Str) (n1 : Nat) (fd : Addr) (fD : Obj) (f1 f2 f3 f4 f5 : Bool)
  (B : Below A₀ base κ.outer h₀) (F : Fr h₀ κ.L s.heap m) (X : (KH w.params).In h₀) (N : News h₀ κ.L s.heap (led))
  (T : Top p loose mean mg mb h₀) (hk : κ.cs.kind = .function) (he1 : (fl, listOf #[.int inst t1, .ref rg, .int cost t4, .int prio t5, .int port t6, .int hops t7, .str role t8] n1) ∈ led) (he2 : (rg, tupO [.int low t2, .int mac t3]) ∈ led) (he3 : (fd, fD) ∈ led)
  (hD : fD.IsDictOf (strKind prg w) [("change", .bool f1), ("proposal", .bool f2), ("learning", .bool f3), ("forwarding", .bool f4), ("agreement", .bool f5)]) (hrole : isRole role = true) (hroom : 0 ≤ low ∧ low < 65536 ∧ 0 ≤ mac ∧ mac < 281474976710656 ∧ 0 ≤ cost ∧ cost < 4294967296 ∧ 0 ≤ prio / 256 ∧ prio / 256 < 256 ∧ 0 ≤ port ∧ port < 256 ∧ 0 ≤ hops ∧ hops < 256)
  (hd : κ.dp + 40 < recursionLimit) (hu : κ.un + 300 < cLine)
  (ret : ∀ (b : Array UInt8) (t : Tok) (h' : Heap) (tk' : Nat), KBw.bInts b = [4 * roleIx role + flagSum f1 f2 f3 f4 f5, low / 256 % 256, low % 256, mac / 1099511627776 % 256, mac / 4294967296 % 256, mac / 16777216 % 256, mac / 65536 % 256, mac / 256 % 256, mac % 256, cost / 16777216 % 256, cost / 65536 % 256, cost / 256 % 256, cost % 256, prio / 256, port, hops] → Fr h₀ κ.L h' m → News h₀ κ.L h' led → Q (.bytes b t) { s with heap := h', toks := tk' }):
  wpAny (model prg w) (T1 κ) (call (.ref (k_addr% "_law_laid")) [.ref fl, .ref fd]) Q E s := (by exact use_of : Use _ (by
 first
 | (
  have N9 : News h₀ κ.L s.heap ((fl, listOf #[.int inst t1, .ref rg, .int cost t4, .int prio t5, .int port t6, .int hops t7, .str role t8] n1) :: (rg, tupO [.int low t2, .int mac t3]) :: (fd, fD) :: led) := by
    intro p9 hp9
    simp only [List.mem_cons] at hp9
    rcases hp9 with rfl | rfl | rfl | hp9
    · exact N _ he1
    · exact N _ he2
    · exact N _ he3
    · exact N _ hp9
  clear N
  obtain ⟨r1, r2, r3, r4, r5, r6, r7, r8, r9, r10, r11, r12⟩ := hroom
  refine wpAny_call ?_
  k_dflt k_enter
  k_steps
  unfold IfStop
  k_dflt (refine' ifjoin f1 1 ?F ?N ?_ ?_ ?_ ?_; (case F => k_asm); (case N => k_asm))
  · k_steps
    all_goals ((try (refine ⟨rfl, ?_⟩)); exact JoinSt.intro (by k_asm) (by k_asm))
  · intro h' tk' F' N'
    k_steps
    all_goals (first | exact ⟨⟨_, rfl⟩, JoinSt.intro (by k_asm) (by k_asm)⟩ | (constructor; exact ⟨_, rfl⟩; exact JoinSt.intro (by k_asm) (by k_asm)) | exact ⟨_, rfl⟩ | exact JoinSt.intro (by k_asm) (by k_asm))
  · intro h' tk' F' N'
    k_steps
    all_goals (first | exact ⟨⟨_, rfl⟩, JoinSt.intro (by k_asm) (by k_asm)⟩ | (constructor; exact ⟨_, rfl⟩; exact JoinSt.intro (by k_asm) (by k_asm)) | exact ⟨_, rfl⟩ | exact JoinSt.intro (by k_asm) (by k_asm))
  intro t1 h' tk' F' N'
  (try dsimp only)
  k_steps
  unfold IfStop
  k_dflt (refine' ifjoin f2 2 ?F ?N ?_ ?_ ?_ ?_; (case F => k_asm); (case N => k_asm))
  · k_steps
    all_goals ((try (refine ⟨rfl, ?_⟩)); exact JoinSt.intro (by k_asm) (by k_asm))
  · intro h' tk' F' N'
    k_steps
    all_goals (first | exact ⟨⟨_, rfl⟩, JoinSt.intro (by k_asm) (by k_asm)⟩ | (constructor; exact ⟨_, rfl⟩; exact JoinSt.intro (by k_asm) (by k_asm)) | exact ⟨_, rfl⟩ | exact JoinSt.intro (by k_asm) (by k_asm))
  · intro h' tk' F' N'
    k_steps
    all_goals (first | exact ⟨⟨_, rfl⟩, JoinSt.intro (by k_asm) (by k_asm)⟩ | (constructor; exact ⟨_, rfl⟩; exact JoinSt.intro (by k_asm) (by k_asm)) | exact ⟨_, rfl⟩ | exact JoinSt.intro (by k_asm) (by k_asm))
  intro t2 h' tk' F' N'
  (try dsimp only)
  k_steps
  unfold IfStop
  k_dflt (refine' ifjoin f3 16 ?F ?N ?_ ?_ ?_ ?_; (case F => k_asm); (case N => k_asm))
  · k_steps
    all_goals ((try (refine ⟨rfl, ?_⟩)); exact JoinSt.intro (by k_asm) (by k_asm))
  · intro h' tk' F' N'
    k_steps
    all_goals (first | exact ⟨⟨_, rfl⟩, JoinSt.intro (by k_asm) (by k_asm)⟩ | (constructor; exact ⟨_, rfl⟩; exact JoinSt.intro (by k_asm) (by k_asm)) | exact ⟨_, rfl⟩ | exact JoinSt.intro (by k_asm) (by k_asm))
  · intro h' tk' F' N'
    k_steps
    all_goals (first | exact ⟨⟨_, rfl⟩, JoinSt.intro (by k_asm) (by k_asm)⟩ | (constructor; exact ⟨_, rfl⟩; exact JoinSt.intro (by k_asm) (by k_asm)) | exact ⟨_, rfl⟩ | exact JoinSt.intro (by k_asm) (by k_asm))
  intro t3 h' tk' F' N'
  (try dsimp only)
  k_steps
  unfold IfStop
  k_dflt (refine' ifjoin f4 32 ?F ?N ?_ ?_ ?_ ?_; (case F => k_asm); (case N => k_asm))
  · k_steps
    all_goals ((try (refine ⟨rfl, ?_⟩)); exact JoinSt.intro (by k_asm) (by k_asm))
  · intro h' tk' F' N'
    k_steps
    all_goals (first | exact ⟨⟨_, rfl⟩, JoinSt.intro (by k_asm) (by k_asm)⟩ | (constructor; exact ⟨_, rfl⟩; exact JoinSt.intro (by k_asm) (by k_asm)) | exact ⟨_, rfl⟩ | exact JoinSt.intro (by k_asm) (by k_asm))
  · intro h' tk' F' N'
    k_steps
    all_goals (first | exact ⟨⟨_, rfl⟩, JoinSt.intro (by k_asm) (by k_asm)⟩ | (constructor; exact ⟨_, rfl⟩; exact JoinSt.intro (by k_asm) (by k_asm)) | exact ⟨_, rfl⟩ | exact JoinSt.intro (by k_asm) (by k_asm))
  intro t4 h' tk' F' N'
  (try dsimp only)
  k_steps
  unfold IfStop
  k_dflt (refine' ifjoin f5 64 ?F ?N ?_ ?_ ?_ ?_; (case F => k_asm); (case N => k_asm))
  · k_steps
    all_goals ((try (refine ⟨rfl, ?_⟩)); exact JoinSt.intro (by k_asm) (by k_asm))
  · intro h' tk' F' N'
    k_steps
    all_goals (first | exact ⟨⟨_, rfl⟩, JoinSt.intro (by k_asm) (by k_asm)⟩ | (constructor; exact ⟨_, rfl⟩; exact JoinSt.intro (by k_asm) (by k_asm)) | exact ⟨_, rfl⟩ | exact JoinSt.intro (by k_asm) (by k_asm))
  · intro h' tk' F' N'
    k_steps
    all_goals (first | exact ⟨⟨_, rfl⟩, JoinSt.intro (by k_asm) (by k_asm)⟩ | (constructor; exact ⟨_, rfl⟩; exact JoinSt.intro (by k_asm) (by k_asm)) | exact ⟨_, rfl⟩ | exact JoinSt.intro (by k_asm) (by k_asm))
  intro t5 h' tk' F' N'
  (try dsimp only)
  have hs9 := @flagSum_in f1 f2 f3 f4 f5
  have hx9 := @roleIx_in role
  unfold flagSum at hs9
  k_steps
  all_goals exact ret _ _ _ _ (by refine Eq.trans (KBw.ints_app (KBw.ints_app (KBw.ints_app (KBw.ints_app (bis1 (by first | exact octB (by assumption) (by assumption) | omega)) (by assumption)) (by assumption)) (by assumption)) (bis3 (by first | (and_intros <;> first | with_reducible assumption | exact leE (by assumption) (by assumption) | exact ltE (by assumption) (by assumption)) | omega))) ?_; unfold flagSum; simp only [List.cons_append, List.nil_append, List.cons.injEq, and_true, true_and]; omega) (by k_asm) (by refine cb_drop (by assumption) ?_; intro p9 hp9; repeat (first | exact hp9 | apply List.Mem.tail)))
 | fail))
theorem laid {w : World} {p : Program} {loose : List Str} {mean : ExcName → Option Value} {mg mb : Str → Option Value}
  (dp un : Nat) (gd : Option (List Code)) (cn : Str) (cs : Scope) (a : Addr) (ccd : Value) (cl : List (Str × Addr)) (outer : List Env) (A₀ : Around) (base h₀ : Heap) (L : Addr) (m : Str → Option Value) (s : Shared) (Q E : Value → Shared → Prop)
  (led : Led) (fl rg : Addr) (inst low mac cost prio port hops : Int) (t1 t2 t3 t4 t5 t6 t7 t8 : Tok) (role : Str) (n1 : Nat) (fd : Addr) (fD : Obj) (f1 f2 f3 f4 f5 : Bool)
  (B : Below A₀ base outer h₀) (F : Fr h₀ L s.heap m) (X : (KH w.params).In h₀) (N : News h₀ L s.heap (led))
  (T : Top p loose mean mg mb h₀) (hk : cs.kind = .function) (he1 : (fl, listOf #[.int inst t1, .ref rg, .int cost t4, .int prio t5, .int port t6, .int hops t7, .str role t8] n1) ∈ led) (he2 : (rg, tupO [.int low t2, .int mac t3]) ∈ led) (he3 : (fd, fD) ∈ led)
  (hD : fD.IsDictOf (strKind prg w) [("change", .bool f1), ("proposal", .bool f2), ("learning", .bool f3), ("forwarding", .bool f4), ("agreement", .bool f5)]) (hrole : isRole role = true) (hroom : 0 ≤ low ∧ low < 65536 ∧ 0 ≤ mac ∧ mac < 281474976710656 ∧ 0 ≤ cost ∧ cost < 4294967296 ∧ 0 ≤ prio / 256 ∧ prio / 256 < 256 ∧ 0 ≤ port ∧ port < 256 ∧ 0 ≤ hops ∧ hops < 256)
  (hd : dp + 40 < recursionLimit) (hu : un + 300 < cLine)
  (ret : ∀ (b : Array UInt8) (t : Tok) (h' : Heap) (tk' : Nat), KBw.bInts b = [4 * roleIx role + flagSum f1 f2 f3 f4 f5, low / 256 % 256, low % 256, mac / 1099511627776 % 256, mac / 4294967296 % 256, mac / 16777216 % 256, mac / 65536 % 256, mac / 256 % 256, mac % 256, cost / 16777216 % 256, cost / 65536 % 256, cost / 256 % 256, cost % 256, prio / 256, port, hops] → Fr h₀ L h' m → News h₀ L h' led → Q (.bytes b t) { s with heap := h', toks := tk' }):
  wpAny (model prg w) (ktrTop dp un gd cn cs L a ccd cl outer) (call (.ref (k_addr% "_law_laid")) [.ref fl, .ref fd]) Q E s :=
  laid_in ⟨dp, un, gd, cn, cs, L, a, ccd, cl, outer⟩ A₀ base h₀ m s Q E led fl rg inst low mac cost prio port hops t1 t2 t3 t4 t5 t6 t7 t8 role n1 fd fD f1 f2 f3 f4 f5 B F X N T hk he1 he2 he3 hD hrole hroom hd hu ret
theorem wdoL73 : True := by
  k_with "off L73" => skip
  trivial
end
section
set_option maxHeartbeats 4000000
theorem wdsL143 : True := by
  k_with "my k_all" =>
    fail_if_success (k_extra "off L143")
    (first | (with_reducible assumption) | ((with_reducible show ∀ p ∈ (_ :: _), _); refine' List.forall_mem_cons.mpr ⟨?_, ?_⟩; (next => (dsimp only; first | (with_reducible assumption) | (with_reducible exact Ne.symm (by assumption)) | k_ne)); (next => k_all)) | exact lt_self (by assumption) | exact lt_up (by assumption) | assumption)
  k_with "call ref" =>
    fail_if_success (k_extra "off L143")
    ((k_here; (with_reducible show wpAny _ _ (call (Value.ref 164) [Value.ref _, Value.int _ _]) _ _ _); k_dflt (refine' takeD ?z7860F ?z7860B ?z7860X ?z7860N ?z7860w ?z7860ne ?z7860T ?z7860K ?z7860p ?z7860a ?z7860b ?z7860d ?z7860u ?_; (case z7860F => k_asm); (case z7860B => k_asm); (case z7860X => k_asm); (case z7860N => k_asm); (case z7860w => k_upd); (case z7860ne => k_all); (case z7860T => k_asm); (case z7860K => first | exact rfl | assumption); (case z7860p => assumption); (case z7860d => ktr_room); (case z7860u => ktr_room); (case z7860a => first | decide | omega); (case z7860b => first | decide | omega); intro d' x' y' t' tx' ty' h' tk' F' N' lo' hi' hp' off'; (try dsimp only))))
  k_with "call ref" =>
    fail_if_success (k_extra "off L143")
    ((k_here; (with_reducible show wpAny _ _ (call (Value.ref (k_addr% "_law_one")) [Value.ref _, Value.ref _]) _ _ _); k_dflt (first
      | (refine' oneD_int ?z5190F ?z5190B ?z5190X ?z5190N ?z5190w ?z5190hm ?z5190ne ?z5190T ?z5190K ?z5190p ?z5190l1 ?z5190l2 ?z5190v ?z5190d ?z5190u ?_; (case z5190F => k_asm); (case z5190B => k_asm); (case z5190X => k_asm); (case z5190N => k_asm); (case z5190w => k_upd); (case z5190hm => k_upd); (case z5190ne => k_all); (case z5190T => k_asm); (case z5190K => first | exact rfl | assumption); (case z5190p => assumption); (case z5190d => ktr_room); (case z5190u => ktr_room); (case z5190v => repeat (first | exact AllInt.nil | refine AllInt.cons ?_)); (case z5190l1 => exact Nat.le_of_ble_eq_true rfl); (case z5190l2 => exact Nat.le_of_ble_eq_true rfl); intro k' t' x' y' tx' ty' h' tk' F' N' hp' off'; (try dsimp only))
      | (refine' oneD_str ?z5190F ?z5190B ?z5190X ?z5190N ?z5190w ?z5190hm ?z5190ne ?z5190T ?z5190K ?z5190p ?z5190l1 ?z5190l2 ?z5190v ?z5190d ?z5190u ?_; (case z5190F => k_asm); (case z5190B => k_asm); (case z5190X => k_asm); (case z5190N => k_asm); (case z5190w => k_upd); (case z5190hm => k_upd); (case z5190ne => k_all); (case z5190T => k_asm); (case z5190K => first | exact rfl | assumption); (case z5190p => assumption); (case z5190d => ktr_room); (case z5190u => ktr_room); (case z5190v => repeat (first | exact AllStr.nil | refine AllStr.cons ?_)); (case z5190l1 => exact Nat.le_of_ble_eq_true rfl); (case z5190l2 => exact Nat.le_of_ble_eq_true rfl); intro k' t' x' y' tx' ty' h' tk' F' N' hp' off'; (try dsimp only))
      | (refine' oneD_ref4 ?z5190F ?z5190B ?z5190X ?z5190N ?z5190w ?z5190hm ?z5190ne ?z5190T ?z5190K ?z5190p ?z5190d ?z5190u ?_ ?_ ?_ ?_; (case z5190F => k_asm); (case z5190B => k_asm); (case z5190X => k_asm); (case z5190N => k_asm); (case z5190w => k_upd); (case z5190hm => k_upd); (case z5190ne => k_all); (case z5190T => k_asm); (case z5190K => first | exact rfl | assumption); (case z5190p => assumption); (case z5190d => ktr_room); (case z5190u => ktr_room); all_goals (intro x' y' tx' ty' h' tk' F' N' hp' off'; (try dsimp only))))))
  k_with "call ref" =>
    fail_if_success (k_extra "off L143")
    ((k_here; (with_reducible show wpAny _ _ (call (Value.ref (k_addr% "_law_is_row")) [Value.ref _]) _ _ _); k_dflt (refine' isrow2 ?z4350B ?z4350F ?z4350X ?z4350N ?z4350T ?z4350K ?z4350h1 ?z4350h2 ?z4350d ?z4350u ?_ ?_; (case z4350F => k_asm); (case z4350B => k_asm); (case z4350X => k_asm); (case z4350N => k_asm); (case z4350T => k_asm); (case z4350K => first | exact rfl | assumption); (case z4350d => ktr_room); (case z4350u => ktr_room); (case z4350h1 => (refine' mem_pick ?z4350w9; (case z4350w9 => k_upd))); (case z4350h2 => (refine' mem_pick ?z4350w9; (case z4350w9 => k_upd))); all_goals (intro hq' h' tk' F' N'; (try dsimp only)))))
  k_with "call ref" =>
    fail_if_success (k_extra "off L143")
    ((k_here; (with_reducible show wpAny _ _ (call (Value.ref (k_addr% "_law_has_room")) [Value.ref _]) _ _ _); k_dflt (refine' room2 ?z3194B ?z3194F ?z3194X ?z3194N ?z3194T ?z3194K ?z3194h1 ?z3194h2 ?z3194d ?z3194u ?_ ?_; (case z3194F => k_asm); (case z3194B => k_asm); (case z3194X => k_asm); (case z3194N => k_asm); (case z3194T => k_asm); (case z3194K => first | exact rfl | assumption); (case z3194d => ktr_room); (case z3194u => ktr_room); (case z3194h1 => (refine' mem_pick ?z3194w9; (case z3194w9 => k_upd))); (case z3194h2 => (refine' mem_pick ?z3194w9; (case z3194w9 => k_upd))); all_goals (intro hq' h' tk' F' N'; (try dsimp only)))))
  k_with "call ref" =>
    fail_if_success (k_extra "off L143")
    ((k_here; (with_reducible show wpAny _ _ (call (Value.ref (k_addr% "_law_fields")) [Value.ref _]) _ _ _); k_dflt (refine' fieldsAt ?z2501F ?z2501B ?z2501X ?z2501N ?z2501w ?z2501ne ?z2501T ?z2501K ?z2501p ?z2501d ?z2501u ?_; (case z2501F => k_asm); (case z2501B => k_asm); (case z2501X => k_asm); (case z2501N => k_asm); (case z2501T => k_asm); (case z2501K => first | exact rfl | assumption); (case z2501d => ktr_room); (case z2501u => ktr_room); (case z2501w => k_upd); (case z2501ne => k_all); (case z2501p => assumption); intro fl' rg' inst' low' mac' cost' prio' port' hops' t1' t2' t3' t4' t5' t6' t7' t8' role' n1' x' y' tx' ty' h' tk' F' N' hp' off' sq'; (try dsimp only))))
  k_with "call ref" =>
    fail_if_success (k_extra "off L143")
    ((k_here; (with_reducible show wpAny _ _ (call (Value.ref (k_addr% "_law_laid")) [Value.ref _, Value.ref _]) _ _ _); k_dflt (refine' laid _ _ _ _ _ _ _ _ _ _ _ _ _ _ _ _ _ _ _ _ _ _ _ _ _ _ _ _ _ _ _ _ _ _ _ _ _ _ _ _ _ _ _ _ ?z6618B ?z6618F ?z6618X ?z6618N ?z6618T ?z6618K ?z6618h1 ?z6618h2 ?z6618h3 ?z6618hD ?z6618hr ?z6618hm ?z6618d ?z6618u (fun b' t' h' tk' hb' F' N' => ?_); (case z6618F => k_asm); (case z6618B => k_asm); (case z6618X => k_asm); (case z6618N => k_asm); (case z6618T => k_asm); (case z6618K => first | exact rfl | assumption); (case z6618d => ktr_room); (case z6618u => ktr_room); (case z6618h1 => (refine' mem_pick ?z6618w9; (case z6618w9 => k_upd))); (case z6618h2 => (refine' mem_pick ?z6618w9; (case z6618w9 => k_upd))); (case z6618h3 => (refine' mem_pick ?z6618w9; (case z6618w9 => k_upd))); (case z6618hD => assumption); (case z6618hr => exact (by assumption : IsRow _ _ _ _ _).1); (case z6618hm => assumption); all_goals (try dsimp only))))
  k_with "call ref" =>
    fail_if_success (k_extra "off L143")
    ((k_here; (k_dflt (show wpAny _ _ (call (Value.ref 99) [Value.ref _]) _ _ _)); k_dflt (refine' told _ _ _ _ _ _ _ _ _ _ _ _ _ _ _ _ _ _ _ _ _ _ _ _ _ _ _ _ _ _ _ _ _ _ _ _ _ _ _ _ _ _ _ _ _ _ _ _ _ _ _ _ ?z4080B ?z4080F ?z4080X ?z4080N ?z4080T ?z4080K ?z4080h1 ?z4080h2 ?z4080h3 ?z4080h4 ?z4080hD ?z4080d ?z4080u (fun D' T9' h' tk' F' N' => ?_); (case z4080F => k_asm); (case z4080B => k_asm); (case z4080X => k_asm); (case z4080N => k_asm); (case z4080T => k_asm); (case z4080K => first | exact rfl | assumption); (case z4080d => ktr_room); (case z4080u => ktr_room); (case z4080h1 => (refine' mem_pick ?z4080w9; (case z4080w9 => k_upd))); (case z4080h2 => (refine' mem_pick ?z4080w9; (case z4080w9 => k_upd))); (case z4080h3 => (refine' mem_pick ?z4080w9; (case z4080w9 => k_upd))); (case z4080h4 => (refine' mem_pick ?z4080w9; (case z4080w9 => k_upd))); (case z4080hD => assumption); all_goals (try dsimp only))))
  k_with "call ref" =>
    fail_if_success (k_extra "off L143")
    ((k_here; (with_reducible show wpAny _ _ (call (Value.ref (k_addr% "read_row")) [Value.bytes _ _]) _ _ _); k_dflt (refine' readrow _ _ _ _ _ _ _ _ _ _ _ _ _ _ _ _ _ _ _ _ _ _ _ _ _ _ _ _ _ _ _ _ _ _ _ _ ?z7649B ?z7649F ?z7649X ?z7649N ?z7649T ?z7649K ?z7649hb ?z7649r0 ?z7649r1 ?z7649r2 ?z7649r13 ?z7649r14 ?z7649d ?z7649u (fun x' dx' rg' fd' fD' k' inst' low' mac' cost' prio' port' t1' t2' t3' t4' t5' t6' t7' t8' q1' q2' q3' q4' q5' q6' q7' q8' h' tk' e1' e2' e3' e4' e5' e6' e7' hD' F' N' => ?_); (case z7649F => k_asm); (case z7649B => k_asm); (case z7649X => k_asm); (case z7649N => k_asm); (case z7649T => k_asm); (case z7649K => first | exact rfl | assumption); (case z7649d => ktr_room); (case z7649u => ktr_room); (case z7649hb => first | assumption | exact rfl); (case z7649r0 => first | exact oct0_in | omega); (case z7649r1 => omega); (case z7649r2 => omega); (case z7649r13 => omega); (case z7649r14 => omega); all_goals (try dsimp only))))
  k_with "my k_updF" =>
    fail_if_success (k_extra "off L143")
    ((with_reducible show UpdF _ _ _ _); first | exact UpdF.head (by k_all) | exact UpdF.tail (by (dsimp only; first | assumption | exact Ne.symm (by assumption) | exact ne_fl (by assumption) (by k_mem) (cell_noseq (by assumption)) | exact ne_rg (by assumption) (by k_mem) (cell_noseq (by assumption)) | exact ne_fl (by assumption) (by k_mem) tab_noseq | exact ne_rg (by assumption) (by k_mem) tab_noseq | k_ne)) (by k_updF))
  k_with "my k_all" =>
    fail_if_success (k_extra "off L143")
    (first | exact lt_self (by assumption) | exact lt_up (by assumption) | assumption | (refine' List.forall_mem_cons.mpr ⟨?_, ?_⟩; (next => (dsimp only; first | assumption | exact Ne.symm (by assumption) | exact ne_fl (by assumption) (by k_mem) (cell_noseq (by assumption)) | exact ne_rg (by assumption) (by k_mem) (cell_noseq (by assumption)) | exact ne_fl (by assumption) (by k_mem) tab_noseq | exact ne_rg (by assumption) (by k_mem) tab_noseq | k_ne)); (next => k_all)))
  k_with "call ref" =>
    fail_if_success (k_extra "off L143")
    ((k_here; (with_reducible show wpAny _ _ (call (Value.ref (k_addr% "row_octets")) [Value.ref _]) _ _ _); k_dflt (refine' rowoct _ _ _ _ _ _ _ _ _ _ _ _ _ _ _ _ _ _ _ _ _ _ _ _ _ _ _ _ _ _ _ _ _ _ _ _ _ _ _ _ _ _ _ _ _ _ _ _ _ _ _ _ ?z6795B ?z6795F ?z6795X ?z6795N ?z6795T ?z6795K ?z6795h1 ?z6795h2 ?z6795h3 ?z6795h4 ?z6795hD ?z6795d ?z6795u (fun hrow' hroom' b' t' h' tk' hb' F' N' => ?_) (fun h9' e' t' vs' g2' h' tk' F' U' R' => ?_); (case z6795F => k_asm); (case z6795B => k_asm); (case z6795X => k_asm); (case z6795N => k_asm); (case z6795T => k_asm); (case z6795K => first | exact rfl | assumption); (case z6795d => ktr_room); (case z6795u => ktr_room); (case z6795h1 => (refine' mem_pick ?z6795w9; (case z6795w9 => k_upd))); (case z6795h2 => (refine' mem_pick ?z6795w9; (case z6795w9 => k_upd))); (case z6795h3 => (refine' mem_pick ?z6795w9; (case z6795w9 => k_upd))); (case z6795h4 => (refine' mem_pick ?z6795w9; (case z6795w9 => k_upd))); (case z6795hD => assumption); all_goals (try dsimp only))))
  k_with "call ref" =>
    fail_if_success (k_extra "off L143")
    ((k_here; (with_reducible show wpAny _ _ (call (Value.ref 119) [Value.ref _]) _ _ _); k_dflt (refine' chk_row _ _ _ _ _ _ _ _ _ _ _ _ _ _ _ _ _ _ _ _ _ _ _ _ _ _ _ _ _ _ _ _ _ _ _ _ _ _ _ _ _ _ _ _ _ _ ?z2374B ?z2374F ?z2374X ?z2374N ?z2374T ?z2374K ?z2374h1 ?z2374h2 ?z2374h3 ?z2374d ?z2374u (fun hrow' h' tk' F' N' => ?_) (fun h9' e' t' vs' g2' h' tk' F' U' R' => ?_); (case z2374F => k_asm); (case z2374B => k_asm); (case z2374X => k_asm); (case z2374N => k_asm); (case z2374T => k_asm); (case z2374K => first | exact rfl | assumption); (case z2374d => ktr_room); (case z2374u => ktr_room); (case z2374h1 => (refine' mem_pick ?z2374w9; (case z2374w9 => k_upd))); (case z2374h2 => (refine' mem_pick ?z2374w9; (case z2374w9 => k_upd))); (case z2374h3 => (refine' mem_pick ?z2374w9; (case z2374w9 => k_upd))); all_goals (try dsimp only))))
  k_with "getMethod type:Exception" =>
    fail_if_success (k_extra "off L143")
    ((k_here; refine' method_type ?z1144F ?z1144X ?z1144m (by decide +kernel) ?z1144e ?z1144h ?_; (case z1144F => k_asm); (case z1144X => k_asm); (case z1144m => exact exc_meta); (case z1144e => k_dflt k_is); (case z1144h => k_handed)))
  k_with "call builtin:Exception.__init__" =>
    fail_if_success (k_extra "off L143")
    ((k_here; (refine' size_init ?z6371F ?z6371N ?z6371n ?z6371X ?_; (case z6371F => k_asm); (case z6371N => k_asm); (case z6371n => assumption); (case z6371X => k_asm); k_whole); intro t' h' F' N' ne' nt'; (try dsimp only)))
  k_with "setAttr ref" =>
    fail_if_success (k_extra "off L143")
    ((k_here; (with_reducible show wpAny _ _ (setAttr (Value.ref _) ("message" : Str) _) _ _ _); (refine' size_store ?z3836F ?z3836N ?z3836n ?z3836X ?_; (case z3836F => k_asm); (case z3836N => k_asm); (case z3836n => assumption); (case z3836X => k_asm); k_whole); intro dx' h' tk' F' N'; (try dsimp only)))
  k_with "exec Raise some none" =>
    fail_if_success (k_extra "off L143")
    ((k_here; (with_reducible show wpAny _ _ (exec (Stmt.Raise (some (Expr.Call (Expr.Name ("SizeError" : Str) _) (_ :: _) [] _)) none _) _) _ _ _); k_dflt (refine' size_raise ?z1466B ?z1466F ?z1466X ?z1466T ?z1466hd ?z1466hu ?z1466hA ?_ ?z1466a ?z1466b ?z1466c ?z1466d; (case z1466hA => rfl); (case z1466B => assumption); (case z1466F => k_asm); (case z1466X => k_asm); (case z1466T => k_asm); (case z1466hd => ktr_room); (case z1466hu => ktr_room); (case z1466a => first | with_reducible exact star_bin | rfl); (case z1466b => rfl); (case z1466c => rfl); (case z1466d => rfl); k_whole)))
  k_with "SizeEnd" =>
    fail_if_success (k_extra "off L143")
    ((k_here; (refine' SizeEnd.intro ?z358F ?z358N ?_; (case z358F => k_asm); (case z358N => k_asm)); intro e' t' dx' h' tk' F' N' ne'; (try dsimp only)))
  k_with "leaving ref" =>
    fail_if_success (k_extra "off L143")
    ((k_here; first
      | (refine' leave_on ?z8181K ?z8181F ?z8181R ?z8181U ?_ ?z8181f; (case z8181R => assumption); (case z8181K => assumption); (case z8181F => assumption); (case z8181U => assumption); (case z8181f => rfl); k_whole; intro h' R' U'; (try dsimp only at R' U' ⊢))
      | (refine' leave_size ?z8181K ?z8181F ?z8181N ?z8181n ?_ ?z8181f ?z8181h; (case z8181K => assumption); (case z8181F => k_asm); (case z8181N => k_asm); (case z8181n => assumption); (case z8181f => rfl); (case z8181h => first | rfl | assumption); k_whole; intro h' R' U'; (try dsimp only at R' U' ⊢))))
  k_with "compareOp NotIn str ref" =>
    fail_if_success (k_extra "off L143")
    ((k_here; (with_reducible show wpAny _ _ (compareOp CmpOp.NotIn (Value.str _ _) (Value.ref 73)) _ _ _); (refine' role_notin ?z9558X ?_; (case z9558X => k_in); k_whole)))
  k_with "eval Lambda" =>
    fail_if_success (k_extra "off L143")
    ((k_here; refine IfStop.mk ?_))
  k_with "call ref" =>
    fail_if_success (k_extra "off L143")
    ((k_here; (with_reducible show wpAny _ _ (call (Value.ref (k_addr% "_law_is_refused")) [Value.ref _]) _ _ _); refine IfStop.mk ?_))
  k_with "compareOp Eq ref ref" =>
    fail_if_success (k_extra "off L143")
    ((k_here; (with_reducible show wpAny _ _ (compareOp CmpOp.Eq (Value.ref _) (Value.ref _)) _ _ _); k_dflt (refine' (told_eqv ?z3791N ?z3791w1 ?z3791w2 ?z3791w3 ?z3791v1 ?z3791v2 ?z3791v3 ?z3791e1 ?z3791e2 ?z3791e3 ?z3791e4 ?z3791e5 ?z3791e6 ?z3791e7 ?z3791e8 ?z3791b1 ?z3791b2 ?z3791b3 ?z3791b4 ?z3791b5 ?z3791hs ?z3791u).1 ?_; (case z3791N => k_asm); (case z3791w1 => k_upd); (case z3791w2 => k_upd); (case z3791w3 => k_upd); (case z3791v1 => k_upd); (case z3791v2 => k_upd); (case z3791v3 => k_upd); (case z3791e1 => exact rb_inst (by assumption) (by assumption) (by assumption) (by assumption)); (case z3791e2 => exact rb_low (by assumption) (by assumption)); (case z3791e3 => exact rb_mac (by assumption) (by assumption)); (case z3791e4 => exact rb_cost (by assumption) (by assumption)); (case z3791e5 => exact rb_prio (by assumption) (by assumption)); (case z3791e6 => exact rb_port (by assumption) (by assumption)); (case z3791e7 => first | exact rfl | omega); (case z3791e8 => exact (congrArg roleAt (by assumption)).trans (oct_role (by assumption : IsRow _ _ _ _ _).1)); (case z3791b1 => exact oct_bits.1); (case z3791b2 => exact oct_bits.2.1); (case z3791b3 => exact oct_bits.2.2.1); (case z3791b4 => exact oct_bits.2.2.2.1); (case z3791b5 => exact oct_bits.2.2.2.2); (case z3791hs => exact (by assumption : IsRow _ _ _ _ _).1); (case z3791u => first | ke_room | ktr_room))))
  k_with "newList" =>
    fail_if_success (k_extra "off L143")
    (k_here; k_dflt (refine' newList_L ?nl1 ?nl2 ?_; (case nl1 => k_asm); (case nl2 => k_asm); k_whole); intro l' h' F' o9 N' l1; (try k_lt l1); (try k_sweep))
  k_with "newTuple" =>
    fail_if_success (k_extra "off L143")
    (k_here; k_dflt (refine' newTuple_L ?nt1 ?nt2 ?_ ?nt3; (case nt1 => k_asm); (case nt2 => k_asm); (case nt3 => kmk_size)); intro D' h' F' o9 N' l1; (try k_lt l1); (try k_sweep))
  k_with "eval Name" =>
    fail_if_success (k_extra "off L143")
    (k_here; (fail_if_success (with_reducible show wpAny _ _ (eval (Expr.Name _ _) (compEnvC _ _ _ _)) _ _ _)); k_dflt (first
      | (refine' nameX_L ?fwfF ?fwfv ?_ ?fwfa ?fwfb; (case fwfF => k_asm); (case fwfa => rfl); (case fwfb => rfl); (case fwfv => rfl); k_whole)
      | (refine' nameX_K ?fwgF ?fwgX ?fwgT ?fwge ?_ ?fwga ?fwgb; (case fwgF => k_asm); (case fwgX => k_asm); (case fwgT => k_asm); (case fwga => rfl); (case fwgb => rfl); (case fwge => k_is); k_whole)
      | fail))
  k_with "nc off" =>
    fail_if_success (k_extra "off L143")
    skip
  trivial
theorem rowright_in {w : World} {p : Program} {loose : List Str} {mean : ExcName → Option Value} {mg mb : Str → Option Value}
  (κ : Cx) (A₀ : Around) (base h₀ : Heap) (m : Str → Option Value) (s : Shared) (Q E : Value → Shared → Prop)
  (rest : Led) (src : Addr) (x y : Int) (tx ty : Tok) (n : Nat) (ps : Array Value)
  (B : Below A₀ base κ.outer h₀) (F : Fr h₀ κ.L s.heap m) (X : (KH w.params).In h₀) (N : News h₀ κ.L s.heap ((src, pool x y tx ty n) :: (235, tabObj ps) :: rest))
  (T : Top p loose mean mg mb h₀) (hk : κ.cs.kind = .function) (hne : ∀ p ∈ (235, tabObj ps) :: rest, p.1 ≠ src) (h235 : ∀ p ∈ rest, p.1 ≠ 235) (hp : 0 ≤ x ∧ 0 ≤ y ∧ y < 2147483647) (hC : CodeHd base 237 235) (St : TabIn ⟨140, 23, 140, 45⟩ ⟨143, 31, 143, 54⟩ "_law_row_right.<locals>.<lambda>" rest ps) (XB : (KH w.params).In base) (TB : Top p loose mean mg mb base) (DD : KtsDicts (κ.outer.filterMap (·.frame)) h₀)
  (hd : κ.dp + 200 < recursionLimit) (hu : κ.un + 1500 < cLine)
  (ret : ∀ (ps' : Array Value) (ext : Led) (x' y' : Int) (tx' ty' : Tok) (h₀' h' : Heap) (tk' : Nat), KtsTurn (κ.outer.filterMap (·.frame)) h₀ h₀' → Fr h₀' κ.L h' m → News h₀' κ.L h' ((src, pool x' y' tx' ty' n) :: (235, tabObj ps') :: (rest ++ ext)) → Below A₀ base κ.outer h₀' → 0 ≤ x' ∧ 0 ≤ y' ∧ y' < 2147483647 → TabIn1 ⟨140, 23, 140, 45⟩ ⟨143, 31, 143, 54⟩ "_law_row_right.<locals>.<lambda>" (rest ++ ext) ps' → ExtOk src "_law_row_right.<locals>.<lambda>" ext → Q (.bool true) { s with heap := h', toks := tk' }):
  wpAny (model prg w) (T1 κ) (call (.ref (k_addr% "_law_row_right")) [.ref src]) Q E s := (by exact use_of : Use _ (by
 first
 | (
  refine wpAny_call ?_
  k_dflt (refine' code_defCT ?k1 ?k2 ?k3 ?k4 ?k5 ?kT ?kA ?kF ?kK ?k6 ?k7 ?k8 ?k9 ?kB ?kD ?_ ?c2 ?c3 ?c4; (case kA => exact rfl); (case kF => exact rfl); (case kK => first | exact rfl | assumption); (case k1 => k_asm); (case k2 => k_asm); (case k3 => k_asm); (case k4 => k_asm); (case k5 => k_asm); (case kT => assumption); (case k6 => k_is); (case k7 => k_is); (case k8 => ktr_room); (case k9 => first | exact BindsTo.of_eq rfl | exact binds_K (by k_in) rfl (by k_is) rfl rfl rfl); (case kB => exact rfl); (case kD => decide +kernel); (case c2 => exact rfl); (case c3 => exact rfl); (case c4 => exact rfl); k_whole; intro g' L' h' tk' cells' FG' F' N' Y' B' X' T' D' l1; k_cells Y'; (try simp only [List.cons_append, List.nil_append] at N'); (try dsimp only); (try k_lift B'); (try k_fold))
  have l235 : @LT.lt Nat _ 235 L' := l1 _ (.tail _ (.head _))
  have lsrc : @LT.lt Nat _ src L' := l1 _ (.head _)
  have lrest : ∀ p ∈ rest, p.1 < L' := fun p hp => l1 p (.tail _ (.tail _ hp))
  have c1 : ∀ p ∈ rest, p.1 ≠ L' + 1 := fun p hp => Nat.ne_of_lt (Nat.lt_succ_of_lt (lrest p hp))
  have c2 : ∀ p ∈ rest, p.1 ≠ L' + 1 + 1 := fun p hp => Nat.ne_of_lt (Nat.lt_succ_of_lt (Nat.lt_succ_of_lt (lrest p hp)))
  clear l1
  have n235 : @Ne Nat 235 src := hne _ (.head _)
  k_steps
  rotate_left
  · unfold IfStop
    k_dflt (refine' kla_eval ?d0 ?_; (case d0 => exact rfl))
    k_dflt (refine' lam_first (p2 := ⟨143, 31, 143, 54⟩) ?F ?N ?T ?C ?cd ?w ?r ?s0 ?s ?κ.cl ?_)
    skip
    case F => k_asm
    case N => k_asm
    case T => k_asm
    case C => exact CodeHd.keeps hC (Below.stays (by assumption))
    case cd => exact rfl
    case w => k_upd
    case s => exact St
    case s0 => exact fun p9 hp9 => Picks.sub (by (repeat (first | exact Picks.self | refine' Picks.up ?_))) p9 hp9
    case r => k_all
    case κ.cl => exact rfl
    intro f1 c1 oc1 vs1 t1 ct1 ps1 h' tk' F' N' d11 d21 Sa nc1 nf1
    (try dsimp only)
    k_steps
    unfold IfStop
    k_dflt (refine' refused _ _ _ _ _ _ _ _ _ _ _ _ _ _ _ _ _ _ _ false _ _ ?B ?F ?X ?N ?T ?K ?hf ?hfd ?XB ?TB ?D ?hc ?d ?u ?_)
    case F => k_asm
    case B => k_asm
    case X => k_asm
    case N => k_asm
    case T => k_asm
    case K => first | exact rfl | assumption
    case d => ktr_room
    case u => ktr_room
    case hf => exact List.mem_cons_self ..
    case hfd => exact rfl
    case XB => exact XB
    case TB => exact TB
    case D => assumption
    case hc =>
      intro dp9 un9 gd9 cn9 cs9 a9 ccd9 cl9 outer9 A9 base9 h9 L9 m9 s9 Q9 E9 B9 F9 X9 N9 T9 K9 d9 u9 yes9 no9
      refine wpAny_call ?_
      k_dflt (refine' kla_code ?k1 ?k2 ?k3 ?k4 ?k5 ?kA ?kF ?kK ?k6 ?k7 ?k8 ?k9 ?kB ?_ ?c2 ?c3 ?c4 ?c5)
      case kA => exact rfl
      case kF => exact rfl
      case kK => first | exact rfl | assumption
      case k1 => exact B9
      case k2 => exact F9
      case k3 => exact X9
      case k4 => exact N9
      case k5 => exact T9
      case k6 => exact List.mem_cons_self ..
      case k7 => exact codeRec_news N9 (List.mem_cons_of_mem _ (List.mem_cons_self ..)) d11 d21
      case k8 => ktr_room
      case k9 => exact rfl
      case c5 => decide
      case kB => exact locs rfl
      case c2 => exact rfl
      case c3 => exact rfl
      case c4 => exact rfl
      intro g' L' h' FG' F' N' B' X' T'
      (try dsimp only)
      k_steps
      all_goals first
        | exact yes9 rfl _ _ _ (by k_asm) (by refine news_pick (by first | with_reducible assumption | assumption) ?_; (repeat (first | exact Picks.self | refine' Picks.up ?_)))
        | exact no9 rfl _ _ _ _ _ _ (by assumption) (by assumption) (by assumption)
        | contradiction
    intro h01 h' tk' TT1 F' N' B'
    have X' := Frag.In.keeps XB (Below.stays B')
    have D' := KtsDicts.turn (by assumption) TT1
    have T' := Top.keeps TB (Below.stays B')
    (try dsimp only)
    k_steps
    unfold IfStop
    k_dflt (refine' kla_eval ?d0 ?_; (case d0 => exact rfl))
    k_dflt (refine' lam_second (p1 := ⟨140, 23, 140, 45⟩) ?pp ?F ?N ?T ?C ?cd ?w ?r ?s0 ?s ?κ.cl ?_)
    case pp => rfl
    case F => k_asm
    case N => k_asm
    case T => k_asm
    case C => exact CodeHd.keeps hC (Below.stays (by assumption))
    case cd => exact rfl
    case w => k_upd
    case s => exact Sa
    case s0 => exact fun p9 hp9 => Picks.sub (by (repeat (first | exact Picks.self | (refine' Picks.cons ?w ?_; (case w => k_upd)) | refine' Picks.up ?_))) p9 hp9
    case r => k_all
    case κ.cl => exact rfl
    intro f2 c2 oc2 vs2 t2 ct2 ps2 h' tk' F' N' d12 d22 Sb nc2 nf2
    (try dsimp only)
    k_steps
    unfold IfStop
    k_dflt (refine' refused _ _ _ _ _ _ _ _ _ _ _ _ _ _ _ _ _ _ _ false _ _ ?B ?F ?X ?N ?T ?K ?hf ?hfd ?XB ?TB ?D ?hc ?d ?u ?_)
    case F => k_asm
    case B => k_asm
    case X => k_asm
    case N => k_asm
    case T => k_asm
    case K => first | exact rfl | assumption
    case d => ktr_room
    case u => ktr_room
    case hf => exact List.mem_cons_self ..
    case hfd => exact rfl
    case XB => exact XB
    case TB => exact TB
    case D => assumption
    case hc =>
      intro dp9 un9 gd9 cn9 cs9 a9 ccd9 cl9 outer9 A9 base9 h9 L9 m9 s9 Q9 E9 B9 F9 X9 N9 T9 K9 d9 u9 yes9 no9
      refine wpAny_call ?_
      k_dflt (refine' kla_code ?k1 ?k2 ?k3 ?k4 ?k5 ?kA ?kF ?kK ?k6 ?k7 ?k8 ?k9 ?kB ?_ ?c2 ?c3 ?c4 ?c5)
      case kA => exact rfl
      case kF => exact rfl
      case kK => first | exact rfl | assumption
      case k1 => exact B9
      case k2 => exact F9
      case k3 => exact X9
      case k4 => exact N9
      case k5 => exact T9
      case k6 => exact List.mem_cons_self ..
      case k7 => exact codeRec_news N9 (List.mem_cons_of_mem _ (List.mem_cons_self ..)) d12 d22
      case k8 => ktr_room
      case k9 => exact rfl
      case c5 => decide
      case kB => exact locs rfl
      case c2 => exact rfl
      case c3 => exact rfl
      case c4 => exact rfl
      intro g' L' h' FG' F' N' B' X' T'
      (try dsimp only)
      k_steps
      all_goals first
        | exact yes9 rfl _ _ _ (by k_asm) (by refine news_pick (by first | with_reducible assumption | assumption) ?_; (repeat (first | exact Picks.self | refine' Picks.up ?_)))
        | exact no9 rfl _ _ _ _ _ _ (by assumption) (by assumption) (by assumption)
        | contradiction
    intro h02 h' tk' TT2 F' N' B'
    have X' := Frag.In.keeps XB (Below.stays B')
    have D' := KtsDicts.turn (by assumption) TT2
    have T' := Top.keeps TB (Below.stays B')
    (try dsimp only)
    k_steps
    show LeaveT _ _ _ _ _ _ _ _ _ _ _
    refine LeaveT.intro (TT1.trans TT2) (by k_asm) (by with_reducible assumption) (fun h2 T2 F2 N2 B2 => ?_)
    refine' ret ps2 [(c2, oc2), (c1, oc1)] _ _ _ _ _ _ _ T2 F2 ?n7 B2 ?p7 (tab_ext2 Sb) ?x7
    case n7 => (refine' rr_news2 N2 ?ws ?wt ?wc ?wd ?hr; (case ws => k_upd); (case wt => k_upd); (case wc => k_upd); (case wd => k_upd); (case hr => (repeat (first | exact Picks.self | refine' Picks.up ?_))))
    case p7 => assumption
    case x7 =>
      refine' ext_off2 ?o2 nc2 d12 d22 ?o1 nc1 d11 d21
      case o2 => (refine' rec_off N2 ?ws ?wc d12; (case ws => k_upd); (case wc => k_upd))
      case o1 => (refine' rec_off N2 ?ws ?wc d11; (case ws => k_upd); (case wc => k_upd))
  · unfold IfStop
    k_dflt (refine' kla_eval ?d0 ?_; (case d0 => exact rfl))
    k_dflt (refine' lam_first (p2 := ⟨143, 31, 143, 54⟩) ?F ?N ?T ?C ?cd ?w ?r ?s0 ?s ?κ.cl ?_)
    skip
    case F => k_asm
    case N => k_asm
    case T => k_asm
    case C => exact CodeHd.keeps hC (Below.stays (by assumption))
    case cd => exact rfl
    case w => k_upd
    case s => exact St
    case s0 => exact fun p9 hp9 => Picks.sub (by (repeat (first | exact Picks.self | refine' Picks.up ?_))) p9 hp9
    case r => k_all
    case κ.cl => exact rfl
    intro f1 c1 oc1 vs1 t1 ct1 ps1 h' tk' F' N' d11 d21 Sa nc1 nf1
    (try dsimp only)
    k_steps
    unfold IfStop
    k_dflt (refine' refused _ _ _ _ _ _ _ _ _ _ _ _ _ _ _ _ _ _ _ true _ _ ?B ?F ?X ?N ?T ?K ?hf ?hfd ?XB ?TB ?D ?hc ?d ?u ?_)
    case F => k_asm
    case B => k_asm
    case X => k_asm
    case N => k_asm
    case T => k_asm
    case K => first | exact rfl | assumption
    case d => ktr_room
    case u => ktr_room
    case hf => exact List.mem_cons_self ..
    case hfd => exact rfl
    case XB => exact XB
    case TB => exact TB
    case D => assumption
    case hc =>
      intro dp9 un9 gd9 cn9 cs9 a9 ccd9 cl9 outer9 A9 base9 h9 L9 m9 s9 Q9 E9 B9 F9 X9 N9 T9 K9 d9 u9 yes9 no9
      refine wpAny_call ?_
      k_dflt (refine' kla_code ?k1 ?k2 ?k3 ?k4 ?k5 ?kA ?kF ?kK ?k6 ?k7 ?k8 ?k9 ?kB ?_ ?c2 ?c3 ?c4 ?c5)
      case kA => exact rfl
      case kF => exact rfl
      case kK => first | exact rfl | assumption
      case k1 => exact B9
      case k2 => exact F9
      case k3 => exact X9
      case k4 => exact N9
      case k5 => exact T9
      case k6 => exact List.mem_cons_self ..
      case k7 => exact codeRec_news N9 (List.mem_cons_of_mem _ (List.mem_cons_self ..)) d11 d21
      case k8 => ktr_room
      case k9 => exact rfl
      case c5 => decide
      case kB => exact locs rfl
      case c2 => exact rfl
      case c3 => exact rfl
      case c4 => exact rfl
      intro g' L' h' FG' F' N' B' X' T'
      (try dsimp only)
      k_steps
      all_goals first
        | exact yes9 rfl _ _ _ (by k_asm) (by refine news_pick (by first | with_reducible assumption | assumption) ?_; (repeat (first | exact Picks.self | refine' Picks.up ?_)))
        | exact no9 rfl _ _ _ _ _ _ (by assumption) (by assumption) (by assumption)
        | contradiction
    intro h01 h' tk' TT1 F' N' B'
    have X' := Frag.In.keeps XB (Below.stays B')
    have D' := KtsDicts.turn (by assumption) TT1
    have T' := Top.keeps TB (Below.stays B')
    (try dsimp only)
    k_steps
    · show LeaveT _ _ _ _ _ _ _ _ _ _ _
      refine LeaveT.intro (TT1) (by k_asm) (by with_reducible assumption) (fun h2 T2 F2 N2 B2 => ?_)
      refine' ret ps1 [(c1, oc1)] _ _ _ _ _ _ _ T2 F2 ?n7 B2 ?p7 (tab_ext1 Sa) ?x7
      case n7 => (refine' rr_news1 N2 ?ws ?wt ?wc ?hr; (case ws => k_upd); (case wt => k_upd); (case wc => k_upd); (case hr => (repeat (first | exact Picks.self | refine' Picks.up ?_))))
      case p7 => assumption
      case x7 =>
        refine' ext_off1 ?o1 nc1 d11 d21
        case o1 => (refine' rec_off N2 ?ws ?wc d11; (case ws => k_upd); (case wc => k_upd))
    · exact (bytes_absurd (by assumption) (by assumption) (by assumption)).elim
    · exact ((by assumption : ¬ (IsRow _ _ _ _ _ ∧ _)) ⟨by assumption, by assumption⟩).elim
    · unfold IfStop
      k_dflt (refine' kla_eval ?d0 ?_; (case d0 => exact rfl))
      k_dflt (refine' lam_second (p1 := ⟨140, 23, 140, 45⟩) ?pp ?F ?N ?T ?C ?cd ?w ?r ?s0 ?s ?κ.cl ?_)
      case pp => rfl
      case F => k_asm
      case N => k_asm
      case T => k_asm
      case C => exact CodeHd.keeps hC (Below.stays (by assumption))
      case cd => exact rfl
      case w => k_upd
      case s => exact Sa
      case s0 => exact fun p9 hp9 => Picks.sub (by (repeat (first | exact Picks.self | (refine' Picks.cons ?w ?_; (case w => k_upd)) | refine' Picks.up ?_))) p9 hp9
      case r => k_all
      case κ.cl => exact rfl
      intro f2 c2 oc2 vs2 t2 ct2 ps2 h' tk' F' N' d12 d22 Sb nc2 nf2
      (try dsimp only)
      k_steps
      unfold IfStop
      k_dflt (refine' refused _ _ _ _ _ _ _ _ _ _ _ _ _ _ _ _ _ _ _ false _ _ ?B ?F ?X ?N ?T ?K ?hf ?hfd ?XB ?TB ?D ?hc ?d ?u ?_)
      case F => k_asm
      case B => k_asm
      case X => k_asm
      case N => k_asm
      case T => k_asm
      case K => first | exact rfl | assumption
      case d => ktr_room
      case u => ktr_room
      case hf => exact List.mem_cons_self ..
      case hfd => exact rfl
      case XB => exact XB
      case TB => exact TB
      case D => assumption
      case hc =>
        intro dp9 un9 gd9 cn9 cs9 a9 ccd9 cl9 outer9 A9 base9 h9 L9 m9 s9 Q9 E9 B9 F9 X9 N9 T9 K9 d9 u9 yes9 no9
        refine wpAny_call ?_
        k_dflt (refine' kla_code ?k1 ?k2 ?k3 ?k4 ?k5 ?kA ?kF ?kK ?k6 ?k7 ?k8 ?k9 ?kB ?_ ?c2 ?c3 ?c4 ?c5)
        case kA => exact rfl
        case kF => exact rfl
        case kK => first | exact rfl | assumption
        case k1 => exact B9
        case k2 => exact F9
        case k3 => exact X9
        case k4 => exact N9
        case k5 => exact T9
        case k6 => exact List.mem_cons_self ..
        case k7 => exact codeRec_news N9 (List.mem_cons_of_mem _ (List.mem_cons_self ..)) d12 d22
        case k8 => ktr_room
        case k9 => exact rfl
        case c5 => decide
        case kB => exact locs rfl
        case c2 => exact rfl
        case c3 => exact rfl
        case c4 => exact rfl
        intro g' L' h' FG' F' N' B' X' T'
        (try dsimp only)
        k_steps
        all_goals first
          | exact yes9 rfl _ _ _ (by k_asm) (by refine news_pick (by first | with_reducible assumption | assumption) ?_; (repeat (first | exact Picks.self | refine' Picks.up ?_)))
          | exact no9 rfl _ _ _ _ _ _ (by assumption) (by assumption) (by assumption)
          | contradiction
      intro h02 h' tk' TT2 F' N' B'
      have X' := Frag.In.keeps XB (Below.stays B')
      have D' := KtsDicts.turn (by assumption) TT2
      have T' := Top.keeps TB (Below.stays B')
      (try dsimp only)
      k_steps
      show LeaveT _ _ _ _ _ _ _ _ _ _ _
      refine LeaveT.intro (TT1.trans TT2) (by k_asm) (by with_reducible assumption) (fun h2 T2 F2 N2 B2 => ?_)
      refine' ret ps2 [(c2, oc2), (c1, oc1)] _ _ _ _ _ _ _ T2 F2 ?n7 B2 ?p7 (tab_ext2 Sb) ?x7
      case n7 => (refine' rr_news2 N2 ?ws ?wt ?wc ?wd ?hr; (case ws => k_upd); (case wt => k_upd); (case wc => k_upd); (case wd => k_upd); (case hr => (repeat (first | exact Picks.self | refine' Picks.up ?_))))
      case p7 => assumption
      case x7 =>
        refine' ext_off2 ?o2 nc2 d12 d22 ?o1 nc1 d11 d21
        case o2 => (refine' rec_off N2 ?ws ?wc d12; (case ws => k_upd); (case wc => k_upd))
        case o1 => (refine' rec_off N2 ?ws ?wc d11; (case ws => k_upd); (case wc => k_upd)))
 | fail))
theorem rowright {w : World} {p : Program} {loose : List Str} {mean : ExcName → Option Value} {mg mb : Str → Option Value}
  (dp un : Nat) (gd : Option (List Code)) (cn : Str) (cs : Scope) (a : Addr) (ccd : Value) (cl : List (Str × Addr)) (outer : List Env) (A₀ : Around) (base h₀ : Heap) (L : Addr) (m : Str → Option Value) (s : Shared) (Q E : Value → Shared → Prop)
  (rest : Led) (src : Addr) (x y : Int) (tx ty : Tok) (n : Nat) (ps : Array Value)
  (B : Below A₀ base outer h₀) (F : Fr h₀ L s.heap m) (X : (KH w.params).In h₀) (N : News h₀ L s.heap ((src, pool x y tx ty n) :: (235, tabObj ps) :: rest))
  (T : Top p loose mean mg mb h₀) (hk : cs.kind = .function) (hne : ∀ p ∈ (235, tabObj ps) :: rest, p.1 ≠ src) (h235 : ∀ p ∈ rest, p.1 ≠ 235) (hp : 0 ≤ x ∧ 0 ≤ y ∧ y < 2147483647) (hC : CodeHd base 237 235) (St : TabIn ⟨140, 23, 140, 45⟩ ⟨143, 31, 143, 54⟩ "_law_row_right.<locals>.<lambda>" rest ps) (XB : (KH w.params).In base) (TB : Top p loose mean mg mb base) (DD : KtsDicts (outer.filterMap (·.frame)) h₀)
  (hd : dp + 200 < recursionLimit) (hu : un + 1500 < cLine)
  (ret : ∀ (ps' : Array Value) (ext : Led) (x' y' : Int) (tx' ty' : Tok) (h₀' h' : Heap) (tk' : Nat), KtsTurn (outer.filterMap (·.frame)) h₀ h₀' → Fr h₀' L h' m → News h₀' L h' ((src, pool x' y' tx' ty' n) :: (235, tabObj ps') :: (rest ++ ext)) → Below A₀ base outer h₀' → 0 ≤ x' ∧ 0 ≤ y' ∧ y' < 2147483647 → TabIn1 ⟨140, 23, 140, 45⟩ ⟨143, 31, 143, 54⟩ "_law_row_right.<locals>.<lambda>" (rest ++ ext) ps' → ExtOk src "_law_row_right.<locals>.<lambda>" ext → Q (.bool true) { s with heap := h', toks := tk' }):
  wpAny (model prg w) (ktrTop dp un gd cn cs L a ccd cl outer) (call (.ref (k_addr% "_law_row_right")) [.ref src]) Q E s :=
  rowright_in ⟨dp, un, gd, cn, cs, L, a, ccd, cl, outer⟩ A₀ base h₀ m s Q E rest src x y tx ty n ps B F X N T hk hne h235 hp hC St XB TB DD hd hu ret
theorem wdoL143 : True := by
  k_with "off L143" => skip
  trivial
end
section
set_option maxHeartbeats 4000000
theorem rowAt0 {w : World} {p : Program} {loose : List Str} {mean : ExcName → Option Value} {mg mb : Str → Option Value}
  {dp un : Nat} {gd : Option (List Code)} {cn : Str} {cs : Scope} {a : Addr} {ccd : Value} {cl : List (Str × Addr)} {A₀ : Around} {h₀ : Heap} {L : Addr} {m : Str → Option Value} {s : Shared} {Q E : Value → Shared → Prop}
  {src : Addr} {x y : Int} {tx ty : Tok} {n : Nat} {ps : Array Value} {all r1 rest : Led}
  (F : Fr h₀ L s.heap m) (B : Below A₀ h₀ [] h₀) (X : (KH w.params).In h₀) (N : News h₀ L s.heap all) (wo : Without src (pool x y tx ty n) all r1) (wt : Without 235 (tabObj ps) r1 rest) (hne : ∀ p ∈ (235, tabObj ps) :: rest, p.1 ≠ src) (h235 : ∀ p ∈ rest, p.1 ≠ 235)
  (T : Top p loose mean mg mb h₀) (hk : cs.kind = .function) (hp : 0 ≤ x ∧ 0 ≤ y ∧ y < 2147483647) (hC : CodeHd h₀ 237 235) (St : TabIn ⟨140, 23, 140, 45⟩ ⟨143, 31, 143, 54⟩ "_law_row_right.<locals>.<lambda>" rest ps) (hd : dp + 200 < recursionLimit) (hu : un + 1500 < cLine)
  (ret : ∀ (ps' : Array Value) (ext : Led) (x' y' : Int) (tx' ty' : Tok) (h' : Heap) (tk' : Nat), Fr h₀ L h' m → News h₀ L h' ((src, pool x' y' tx' ty' n) :: (235, tabObj ps') :: (rest ++ ext)) → 0 ≤ x' ∧ 0 ≤ y' ∧ y' < 2147483647 → TabIn1 ⟨140, 23, 140, 45⟩ ⟨143, 31, 143, 54⟩ "_law_row_right.<locals>.<lambda>" (rest ++ ext) ps' → ExtOk src "_law_row_right.<locals>.<lambda>" ext → Q (.bool true) { s with heap := h', toks := tk' }) :
  wpAny (model prg w) (ktrTop dp un gd cn cs L a ccd cl []) (call (.ref (k_addr% "_law_row_right")) [.ref src]) Q E s :=
  rowright dp un gd cn cs a ccd cl [] A₀ h₀ h₀ L m s Q E rest src x y tx ty n ps B F X (fun q hq => N q (by
    rcases List.mem_cons.mp hq with rfl | hq
    · exact mem_pick wo
    · exact wo.sub _ (.tail _ (wt.sub q hq)))) T hk hne h235 hp hC St X T ktsDicts_nil hd hu (fun ps' ext x' y' tx' ty' g h' tk' K' F' N' _ P' S' O' => ret ps' ext x' y' tx' ty' h' tk' (turn0_fr K' F') (turn0_news K' N') P' S' O')
end
section
set_option maxHeartbeats 2000000
section lawx
open PySem PySem.Spec
/-- what bears no text at its second field -/
def NoRec (o : Obj) : Prop := ∀ vs q t, o.data = .fields vs → vs[1]? ≠ some (.str q t)
theorem noRec_it {a b : Int} : NoRec (itR a b) := fun vs q t h e => by
  cases h
  cases e
theorem noRec_cell {o : Obj} {v : Option Value} (d : o.data = .cell v) : NoRec o := fun vs q t h _ => by rw [d] at h; cases h
theorem RecIn.drop {a : Addr} {o : Obj} {r : Led} {q : Str} {c : Addr} (h : RecIn ((a, o) :: r) q c) (n : NoRec o) : RecIn r q c := by
  obtain ⟨oc, vs, t, hm, hd, hv⟩ := h
  rcases List.mem_cons.mp hm with e | hm
  · cases e; exact absurd hv (n _ _ _ hd)
  · exact ⟨oc, vs, t, hm, hd, hv⟩
theorem TabIn1.drop {p1 p2 : Pos} {q : Str} {a : Addr} {o : Obj} {r : Led} {ps : Array Value} (h : TabIn1 p1 p2 q ((a, o) :: r) ps) (n : NoRec o) : TabIn1 p1 p2 q r ps := by
  rcases h with ⟨c1, e, x⟩ | ⟨c1, c2, e, x, y⟩
  · exact .inl ⟨c1, e, x.drop n⟩
  · exact .inr ⟨c1, c2, e, x.drop n, y.drop n⟩
theorem ExtOk.src {src : Addr} {q : Str} {ext : Led} (O : ExtOk src q ext) : ∀ p ∈ ext, p.1 ≠ src := fun p hp => (O p hp).1
theorem ExtOk.tab {src : Addr} {q : Str} {ext : Led} (O : ExtOk src q ext) : ∀ p ∈ ext, p.1 ≠ 235 := fun p hp => (O p hp).2.1
theorem ExtOk.off {src : Addr} {q : Str} {ext : Led} (O : ExtOk src q ext) {h₀ h : Heap} {L I : Addr} {o : Obj} {led : Led} (N : News h₀ L h led) (sub : ∀ p ∈ ext, p ∈ led) (hm : (I, o) ∈ led) (n : NoRec o) : ∀ p ∈ ext, p.1 ≠ I := fun p hp e => by
  obtain ⟨_, _, vs, t, hd, hv⟩ := O p hp
  have a := (N _ (sub p hp)).1
  have b := (N _ hm).1
  dsimp only at b
  rw [e, b] at a
  cases a
  exact n _ _ _ hd hv
end lawx
end
section
set_option maxHeartbeats 2000000
section bytes16
open PySem PyProof.Rows.LCg
/-- a byte's value -/
def IsByte (v : Value) : Prop := ∃ k t, v = .int k t ∧ 0 ≤ k ∧ k < 256
theorem isByte_of {k : Int} {t : Tok} (a : 0 ≤ k) (b : k < 256) : IsByte (.int k t) := ⟨k, t, rfl, a, b⟩
theorem bytes_at {v : Value} {ys : List Value} (h : ∀ y ∈ v :: ys, IsByte y) : ∃ k t, v = .int k t ∧ (0 ≤ k ∧ k < 256) ∧ ∀ y ∈ ys, IsByte y := by
  obtain ⟨k, t, e, a, b⟩ := h v (.head _)
  exact ⟨k, t, e, ⟨a, b⟩, fun y hy => h y (.tail _ hy)⟩
theorem cons_of {n : Nat} {ys : List Value} (h : ys.length = n + 1) : ∃ v zs, ys = v :: zs ∧ zs.length = n := by
  cases ys with
  | nil => cases h
  | cons v zs => exact ⟨v, zs, rfl, Nat.succ.inj h⟩
theorem bytes_cons {n : Nat} {ys : List Value} {P : List Value → Prop} (hb : ∀ y ∈ ys, IsByte y) (hl : ys.length = n + 1) (h : ∀ k t zs, 0 ≤ k ∧ k < 256 → (∀ y ∈ zs, IsByte y) → zs.length = n → P (.int k t :: zs)) : P ys := by
  obtain ⟨v, zs, rfl, hl2⟩ := cons_of hl
  obtain ⟨k, t, rfl, b, hb2⟩ := bytes_at hb
  exact h k t zs b hb2 hl2
theorem bytes_nil {ys : List Value} {P : List Value → Prop} (hl : ys.length = 0) (h : P []) : P ys := by
  rw [List.eq_nil_of_length_eq_zero hl]; exact h
section
variable {prog : Program} {w : World} {A : Around} {s : Shared} {h₀ : Heap} {L : Addr} {m : Str → Option Value} {env : Env} {elt : PySem.Expr} {ifs : List PySem.Expr} {scope : Scope} {cl : List (Str × Addr)} {S : Led → Prop} {Fin : List Value → Led → Prop}
theorem off3_sub {I C D : Addr} {l l' : Led} (o : Off3 I C D l) (h : ∀ p ∈ l', p ∈ l) : Off3 I C D l' := Off3.of fun p hp => o.mem p (h p hp)
theorem McL.sub {asg : Asg} {r : List Asg} {ys : List Value} {l l' : Led} (h : ∀ p ∈ l', p ∈ l) (R : McL prog w A h₀ L m env elt ifs scope cl s S Fin (asg :: r) ys l') : McL prog w A h₀ L m env elt ifs scope cl s S Fin (asg :: r) ys l :=
  fun I oI C oC D m₂ g tk E' a b F N o ne => R I oI C oC D m₂ g tk E' a b F (fun q hq => N q (by
    rcases List.mem_cons.mp hq with rfl | hq
    · exact .head _
    · rcases List.mem_cons.mp hq with rfl | hq
      · exact .tail _ (.head _)
      · rcases List.mem_cons.mp hq with rfl | hq
        · exact .tail _ (.tail _ (.head _))
        · exact .tail _ (.tail _ (.tail _ (h q hq))))) (off3_sub o h) ne
theorem McL.bytes {src : Addr} {n : Nat} {rest : Led} (step : ∀ (asg : Asg) (r : List Asg) (ys : List Value) (x y : Int) (tx ty : Tok), 0 ≤ x ∧ 0 ≤ y ∧ y < 2147483647 →
      (∀ (k : Int) (t : Tok) (x' y' : Int) (tx' ty' : Tok), 0 ≤ k → k < 256 → 0 ≤ x' ∧ 0 ≤ y' ∧ y' < 2147483647 → McL prog w A h₀ L m env elt ifs scope cl s S Fin r (ys ++ [.int k t]) ((src, pool x' y' tx' ty' n) :: rest)) →
      McL prog w A h₀ L m env elt ifs scope cl s S Fin (asg :: r) ys ((src, pool x y tx ty n) :: rest)) :
    ∀ (asgs : List Asg) (ys : List Value) (x y : Int) (tx ty : Tok), 0 ≤ x ∧ 0 ≤ y ∧ y < 2147483647 → (∀ v ∈ ys, IsByte v) →
      (∀ (zs : List Value) (x' y' : Int) (tx' ty' : Tok), 0 ≤ x' ∧ 0 ≤ y' ∧ y' < 2147483647 → (∀ v ∈ zs, IsByte v) → zs.length = ys.length + asgs.length → Fin zs ((src, pool x' y' tx' ty' n) :: rest)) →
      McL prog w A h₀ L m env elt ifs scope cl s S Fin asgs ys ((src, pool x y tx ty n) :: rest)
  | [], ys, x, y, tx, ty, hp, hb, fin => fin ys x y tx ty hp hb rfl
  | asg :: r, ys, x, y, tx, ty, hp, hb, fin => step asg r ys x y tx ty hp fun k t x' y' tx' ty' a b hp' =>
    McL.bytes step r (ys ++ [.int k t]) x' y' tx' ty' hp' (fun v hv => by
      rcases List.mem_append.mp hv with hv | hv
      · exact hb v hv
      · rw [List.mem_singleton.mp hv]; exact isByte_of a b) (fun zs x'' y'' tx'' ty'' hp'' hb'' hl => fin zs x'' y'' tx'' ty'' hp'' hb'' (by rw [hl, List.length_append, List.length_singleton, List.length_cons]; omega))
theorem McL.bytes0 {src : Addr} {n : Nat} {news rest : Led} {x y : Int} {tx ty : Tok} {asg : Asg} {r : List Asg} (wo : Without src (pool x y tx ty n) news rest) (hp : 0 ≤ x ∧ 0 ≤ y ∧ y < 2147483647)
    (step : ∀ (asg : Asg) (r : List Asg) (ys : List Value) (x y : Int) (tx ty : Tok), 0 ≤ x ∧ 0 ≤ y ∧ y < 2147483647 →
      (∀ (k : Int) (t : Tok) (x' y' : Int) (tx' ty' : Tok), 0 ≤ k → k < 256 → 0 ≤ x' ∧ 0 ≤ y' ∧ y' < 2147483647 → McL prog w A h₀ L m env elt ifs scope cl s S Fin r (ys ++ [.int k t]) ((src, pool x' y' tx' ty' n) :: rest)) →
      McL prog w A h₀ L m env elt ifs scope cl s S Fin (asg :: r) ys ((src, pool x y tx ty n) :: rest))
    (fin : ∀ (zs : List Value) (x' y' : Int) (tx' ty' : Tok), 0 ≤ x' ∧ 0 ≤ y' ∧ y' < 2147483647 → (∀ v ∈ zs, IsByte v) → zs.length = (asg :: r).length → Fin zs ((src, pool x' y' tx' ty' n) :: rest)) :
    McL prog w A h₀ L m env elt ifs scope cl s S Fin (asg :: r) [] news :=
  McL.sub wo.sub (McL.bytes step (asg :: r) [] x y tx ty hp (fun _ h => nomatch h) fun zs x' y' tx' ty' a b c => fin zs x' y' tx' ty' a b (by rw [c, List.length_nil, Nat.zero_add]))
end
theorem roleAt_is {k : Int} : isRole (roleAt k) = true := by
  unfold roleAt
  split
  · decide +kernel
  · split
    · decide +kernel
    · split <;> decide +kernel
end bytes16
end
section
set_option maxHeartbeats 4000000
theorem wdsL150 : True := by
  k_with "my k_all" =>
    fail_if_success (k_extra "off L150")
    (first | (with_reducible assumption) | ((with_reducible show ∀ p ∈ (_ :: _), _); refine' List.forall_mem_cons.mpr ⟨?_, ?_⟩; (next => (dsimp only; first | (with_reducible assumption) | (with_reducible exact Ne.symm (by assumption)) | k_ne)); (next => k_all)) | exact lt_self (by assumption) | exact lt_up (by assumption) | assumption)
  k_with "call ref" =>
    fail_if_success (k_extra "off L150")
    ((k_here; (with_reducible show wpAny _ _ (call (Value.ref 164) [Value.ref _, Value.int _ _]) _ _ _); k_dflt (refine' takeD ?z7860F ?z7860B ?z7860X ?z7860N ?z7860w ?z7860ne ?z7860T ?z7860K ?z7860p ?z7860a ?z7860b ?z7860d ?z7860u ?_; (case z7860F => k_asm); (case z7860B => k_asm); (case z7860X => k_asm); (case z7860N => k_asm); (case z7860w => k_upd); (case z7860ne => k_all); (case z7860T => k_asm); (case z7860K => first | exact rfl | assumption); (case z7860p => assumption); (case z7860d => ktr_room); (case z7860u => ktr_room); (case z7860a => first | decide | omega); (case z7860b => first | decide | omega); intro d' x' y' t' tx' ty' h' tk' F' N' lo' hi' hp' off'; (try dsimp only))))
  k_with "call ref" =>
    fail_if_success (k_extra "off L150")
    ((k_here; (with_reducible show wpAny _ _ (call (Value.ref (k_addr% "_law_one")) [Value.ref _, Value.ref _]) _ _ _); k_dflt (first
      | (refine' oneD_int ?z5190F ?z5190B ?z5190X ?z5190N ?z5190w ?z5190hm ?z5190ne ?z5190T ?z5190K ?z5190p ?z5190l1 ?z5190l2 ?z5190v ?z5190d ?z5190u ?_; (case z5190F => k_asm); (case z5190B => k_asm); (case z5190X => k_asm); (case z5190N => k_asm); (case z5190w => k_upd); (case z5190hm => k_upd); (case z5190ne => k_all); (case z5190T => k_asm); (case z5190K => first | exact rfl | assumption); (case z5190p => assumption); (case z5190d => ktr_room); (case z5190u => ktr_room); (case z5190v => repeat (first | exact AllInt.nil | refine AllInt.cons ?_)); (case z5190l1 => exact Nat.le_of_ble_eq_true rfl); (case z5190l2 => exact Nat.le_of_ble_eq_true rfl); intro k' t' x' y' tx' ty' h' tk' F' N' hp' off'; (try dsimp only))
      | (refine' oneD_str ?z5190F ?z5190B ?z5190X ?z5190N ?z5190w ?z5190hm ?z5190ne ?z5190T ?z5190K ?z5190p ?z5190l1 ?z5190l2 ?z5190v ?z5190d ?z5190u ?_; (case z5190F => k_asm); (case z5190B => k_asm); (case z5190X => k_asm); (case z5190N => k_asm); (case z5190w => k_upd); (case z5190hm => k_upd); (case z5190ne => k_all); (case z5190T => k_asm); (case z5190K => first | exact rfl | assumption); (case z5190p => assumption); (case z5190d => ktr_room); (case z5190u => ktr_room); (case z5190v => repeat (first | exact AllStr.nil | refine AllStr.cons ?_)); (case z5190l1 => exact Nat.le_of_ble_eq_true rfl); (case z5190l2 => exact Nat.le_of_ble_eq_true rfl); intro k' t' x' y' tx' ty' h' tk' F' N' hp' off'; (try dsimp only))
      | (refine' oneD_ref4 ?z5190F ?z5190B ?z5190X ?z5190N ?z5190w ?z5190hm ?z5190ne ?z5190T ?z5190K ?z5190p ?z5190d ?z5190u ?_ ?_ ?_ ?_; (case z5190F => k_asm); (case z5190B => k_asm); (case z5190X => k_asm); (case z5190N => k_asm); (case z5190w => k_upd); (case z5190hm => k_upd); (case z5190ne => k_all); (case z5190T => k_asm); (case z5190K => first | exact rfl | assumption); (case z5190p => assumption); (case z5190d => ktr_room); (case z5190u => ktr_room); all_goals (intro x' y' tx' ty' h' tk' F' N' hp' off'; (try dsimp only))))))
  k_with "call ref" =>
    fail_if_success (k_extra "off L150")
    ((k_here; (with_reducible show wpAny _ _ (call (Value.ref (k_addr% "_law_is_row")) [Value.ref _]) _ _ _); k_dflt (refine' isrow2 ?z4350B ?z4350F ?z4350X ?z4350N ?z4350T ?z4350K ?z4350h1 ?z4350h2 ?z4350d ?z4350u ?_ ?_; (case z4350F => k_asm); (case z4350B => k_asm); (case z4350X => k_asm); (case z4350N => k_asm); (case z4350T => k_asm); (case z4350K => first | exact rfl | assumption); (case z4350d => ktr_room); (case z4350u => ktr_room); (case z4350h1 => (refine' mem_pick ?z4350w9; (case z4350w9 => k_upd))); (case z4350h2 => (refine' mem_pick ?z4350w9; (case z4350w9 => k_upd))); all_goals (intro hq' h' tk' F' N'; (try dsimp only)))))
  k_with "call ref" =>
    fail_if_success (k_extra "off L150")
    ((k_here; (with_reducible show wpAny _ _ (call (Value.ref (k_addr% "_law_has_room")) [Value.ref _]) _ _ _); k_dflt (refine' room2 ?z3194B ?z3194F ?z3194X ?z3194N ?z3194T ?z3194K ?z3194h1 ?z3194h2 ?z3194d ?z3194u ?_ ?_; (case z3194F => k_asm); (case z3194B => k_asm); (case z3194X => k_asm); (case z3194N => k_asm); (case z3194T => k_asm); (case z3194K => first | exact rfl | assumption); (case z3194d => ktr_room); (case z3194u => ktr_room); (case z3194h1 => (refine' mem_pick ?z3194w9; (case z3194w9 => k_upd))); (case z3194h2 => (refine' mem_pick ?z3194w9; (case z3194w9 => k_upd))); all_goals (intro hq' h' tk' F' N'; (try dsimp only)))))
  k_with "call ref" =>
    fail_if_success (k_extra "off L150")
    ((k_here; (with_reducible show wpAny _ _ (call (Value.ref (k_addr% "_law_fields")) [Value.ref _]) _ _ _); k_dflt (refine' fieldsAt ?z2501F ?z2501B ?z2501X ?z2501N ?z2501w ?z2501ne ?z2501T ?z2501K ?z2501p ?z2501d ?z2501u ?_; (case z2501F => k_asm); (case z2501B => k_asm); (case z2501X => k_asm); (case z2501N => k_asm); (case z2501T => k_asm); (case z2501K => first | exact rfl | assumption); (case z2501d => ktr_room); (case z2501u => ktr_room); (case z2501w => k_upd); (case z2501ne => k_all); (case z2501p => assumption); intro fl' rg' inst' low' mac' cost' prio' port' hops' t1' t2' t3' t4' t5' t6' t7' t8' role' n1' x' y' tx' ty' h' tk' F' N' hp' off' sq'; (try dsimp only))))
  k_with "call ref" =>
    fail_if_success (k_extra "off L150")
    ((k_here; (with_reducible show wpAny _ _ (call (Value.ref (k_addr% "_law_laid")) [Value.ref _, Value.ref _]) _ _ _); k_dflt (refine' laid _ _ _ _ _ _ _ _ _ _ _ _ _ _ _ _ _ _ _ _ _ _ _ _ _ _ _ _ _ _ _ _ _ _ _ _ _ _ _ _ _ _ _ _ ?z6618B ?z6618F ?z6618X ?z6618N ?z6618T ?z6618K ?z6618h1 ?z6618h2 ?z6618h3 ?z6618hD ?z6618hr ?z6618hm ?z6618d ?z6618u (fun b' t' h' tk' hb' F' N' => ?_); (case z6618F => k_asm); (case z6618B => k_asm); (case z6618X => k_asm); (case z6618N => k_asm); (case z6618T => k_asm); (case z6618K => first | exact rfl | assumption); (case z6618d => ktr_room); (case z6618u => ktr_room); (case z6618h1 => (refine' mem_pick ?z6618w9; (case z6618w9 => k_upd))); (case z6618h2 => (refine' mem_pick ?z6618w9; (case z6618w9 => k_upd))); (case z6618h3 => (refine' mem_pick ?z6618w9; (case z6618w9 => k_upd))); (case z6618hD => assumption); (case z6618hr => exact (by assumption : IsRow _ _ _ _ _).1); (case z6618hm => assumption); all_goals (try dsimp only))))
  k_with "call ref" =>
    fail_if_success (k_extra "off L150")
    ((k_here; (k_dflt (show wpAny _ _ (call (Value.ref 99) [Value.ref _]) _ _ _)); k_dflt (refine' told _ _ _ _ _ _ _ _ _ _ _ _ _ _ _ _ _ _ _ _ _ _ _ _ _ _ _ _ _ _ _ _ _ _ _ _ _ _ _ _ _ _ _ _ _ _ _ _ _ _ _ _ ?z4080B ?z4080F ?z4080X ?z4080N ?z4080T ?z4080K ?z4080h1 ?z4080h2 ?z4080h3 ?z4080h4 ?z4080hD ?z4080d ?z4080u (fun D' T9' h' tk' F' N' => ?_); (case z4080F => k_asm); (case z4080B => k_asm); (case z4080X => k_asm); (case z4080N => k_asm); (case z4080T => k_asm); (case z4080K => first | exact rfl | assumption); (case z4080d => ktr_room); (case z4080u => ktr_room); (case z4080h1 => (refine' mem_pick ?z4080w9; (case z4080w9 => k_upd))); (case z4080h2 => (refine' mem_pick ?z4080w9; (case z4080w9 => k_upd))); (case z4080h3 => (refine' mem_pick ?z4080w9; (case z4080w9 => k_upd))); (case z4080h4 => (refine' mem_pick ?z4080w9; (case z4080w9 => k_upd))); (case z4080hD => assumption); all_goals (try dsimp only))))
  k_with "call ref" =>
    fail_if_success (k_extra "off L150")
    ((k_here; (with_reducible show wpAny _ _ (call (Value.ref (k_addr% "read_row")) [Value.bytes _ _]) _ _ _); k_dflt (refine' readrow _ _ _ _ _ _ _ _ _ _ _ _ _ _ _ _ _ _ _ _ _ _ _ _ _ _ _ _ _ _ _ _ _ _ _ _ ?z7649B ?z7649F ?z7649X ?z7649N ?z7649T ?z7649K ?z7649hb ?z7649r0 ?z7649r1 ?z7649r2 ?z7649r13 ?z7649r14 ?z7649d ?z7649u (fun x' dx' rg' fd' fD' k' inst' low' mac' cost' prio' port' t1' t2' t3' t4' t5' t6' t7' t8' q1' q2' q3' q4' q5' q6' q7' q8' h' tk' e1' e2' e3' e4' e5' e6' e7' hD' F' N' => ?_); (case z7649F => k_asm); (case z7649B => k_asm); (case z7649X => k_asm); (case z7649N => k_asm); (case z7649T => k_asm); (case z7649K => first | exact rfl | assumption); (case z7649d => ktr_room); (case z7649u => ktr_room); (case z7649hb => first | assumption | exact rfl); (case z7649r0 => first | exact oct0_in | omega); (case z7649r1 => omega); (case z7649r2 => omega); (case z7649r13 => omega); (case z7649r14 => omega); all_goals (try dsimp only))))
  k_with "my k_updF" =>
    fail_if_success (k_extra "off L150")
    ((with_reducible show UpdF _ _ _ _); first | exact UpdF.head (by k_all) | exact UpdF.tail (by (dsimp only; first | assumption | exact Ne.symm (by assumption) | exact ne_fl (by assumption) (by k_mem) (cell_noseq (by assumption)) | exact ne_rg (by assumption) (by k_mem) (cell_noseq (by assumption)) | exact ne_fl (by assumption) (by k_mem) tab_noseq | exact ne_rg (by assumption) (by k_mem) tab_noseq | k_ne)) (by k_updF))
  k_with "my k_all" =>
    fail_if_success (k_extra "off L150")
    (first | exact lt_self (by assumption) | exact lt_up (by assumption) | assumption | (refine' List.forall_mem_cons.mpr ⟨?_, ?_⟩; (next => (dsimp only; first | assumption | exact Ne.symm (by assumption) | exact ne_fl (by assumption) (by k_mem) (cell_noseq (by assumption)) | exact ne_rg (by assumption) (by k_mem) (cell_noseq (by assumption)) | exact ne_fl (by assumption) (by k_mem) tab_noseq | exact ne_rg (by assumption) (by k_mem) tab_noseq | k_ne)); (next => k_all)))
  k_with "call ref" =>
    fail_if_success (k_extra "off L150")
    ((k_here; (with_reducible show wpAny _ _ (call (Value.ref (k_addr% "row_octets")) [Value.ref _]) _ _ _); k_dflt (refine' rowoct _ _ _ _ _ _ _ _ _ _ _ _ _ _ _ _ _ _ _ _ _ _ _ _ _ _ _ _ _ _ _ _ _ _ _ _ _ _ _ _ _ _ _ _ _ _ _ _ _ _ _ _ ?z6795B ?z6795F ?z6795X ?z6795N ?z6795T ?z6795K ?z6795h1 ?z6795h2 ?z6795h3 ?z6795h4 ?z6795hD ?z6795d ?z6795u (fun hrow' hroom' b' t' h' tk' hb' F' N' => ?_) (fun h9' e' t' vs' g2' h' tk' F' U' R' => ?_); (case z6795F => k_asm); (case z6795B => k_asm); (case z6795X => k_asm); (case z6795N => k_asm); (case z6795T => k_asm); (case z6795K => first | exact rfl | assumption); (case z6795d => ktr_room); (case z6795u => ktr_room); (case z6795h1 => (refine' mem_pick ?z6795w9; (case z6795w9 => k_upd))); (case z6795h2 => (refine' mem_pick ?z6795w9; (case z6795w9 => k_upd))); (case z6795h3 => (refine' mem_pick ?z6795w9; (case z6795w9 => k_upd))); (case z6795h4 => (refine' mem_pick ?z6795w9; (case z6795w9 => k_upd))); (case z6795hD => assumption); all_goals (try dsimp only))))
  k_with "call ref" =>
    fail_if_success (k_extra "off L150")
    ((k_here; (with_reducible show wpAny _ _ (call (Value.ref 119) [Value.ref _]) _ _ _); k_dflt (refine' chk_row _ _ _ _ _ _ _ _ _ _ _ _ _ _ _ _ _ _ _ _ _ _ _ _ _ _ _ _ _ _ _ _ _ _ _ _ _ _ _ _ _ _ _ _ _ _ ?z2374B ?z2374F ?z2374X ?z2374N ?z2374T ?z2374K ?z2374h1 ?z2374h2 ?z2374h3 ?z2374d ?z2374u (fun hrow' h' tk' F' N' => ?_) (fun h9' e' t' vs' g2' h' tk' F' U' R' => ?_); (case z2374F => k_asm); (case z2374B => k_asm); (case z2374X => k_asm); (case z2374N => k_asm); (case z2374T => k_asm); (case z2374K => first | exact rfl | assumption); (case z2374d => ktr_room); (case z2374u => ktr_room); (case z2374h1 => (refine' mem_pick ?z2374w9; (case z2374w9 => k_upd))); (case z2374h2 => (refine' mem_pick ?z2374w9; (case z2374w9 => k_upd))); (case z2374h3 => (refine' mem_pick ?z2374w9; (case z2374w9 => k_upd))); all_goals (try dsimp only))))
  k_with "call ref" =>
    fail_if_success (k_extra "off L150")
    ((k_here; (with_reducible show wpAny _ _ (call (Value.ref (k_addr% "read_row")) [Value.bytes _ _]) _ _ _); k_dflt (refine' readrow _ _ _ _ _ _ _ _ _ _ _ _ _ _ _ _ _ _ _ _ 77 16 5 0 0 0 0 0 9 0 0 0 7 31 47 3 ?z7111B ?z7111F ?z7111X ?z7111N ?z7111T ?z7111K ?z7111hb ?z7111r0 ?z7111r1 ?z7111r2 ?z7111r13 ?z7111r14 ?z7111d ?z7111u (fun x' dx' rg' fd' fD' k' inst' low' mac' cost' prio' port' t1' t2' t3' t4' t5' t6' t7' t8' q1' q2' q3' q4' q5' q6' q7' q8' h' tk' e1' e2' e3' e4' e5' e6' e7' hD' F' N' => ?_); (case z7111F => k_asm); (case z7111B => k_asm); (case z7111X => k_asm); (case z7111N => k_asm); (case z7111T => k_asm); (case z7111K => first | exact rfl | assumption); (case z7111d => ktr_room); (case z7111u => ktr_room); (case z7111hb => exact rfl); (case z7111r0 => decide); (case z7111r1 => decide); (case z7111r2 => decide); (case z7111r13 => decide); (case z7111r14 => decide); all_goals (try dsimp only))))
  k_with "compareOp NotEq ref ref" =>
    fail_if_success (k_extra "off L150")
    ((k_here; (with_reducible show wpAny _ _ (compareOp CmpOp.NotEq (Value.ref _) (Value.ref _)) _ _ _); k_dflt (refine' (told_eqv ?z9704N ?z9704w1 ?z9704w2 ?z9704w3 ?z9704v1 ?z9704v2 ?z9704v3 ?z9704e1 ?z9704e2 ?z9704e3 ?z9704e4 ?z9704e5 ?z9704e6 ?z9704e7 ?z9704e8 ?z9704b1 ?z9704b2 ?z9704b3 ?z9704b4 ?z9704b5 ?z9704hs ?z9704u).2 ?_; (case z9704N => k_asm); (case z9704w1 => k_upd); (case z9704w2 => k_upd); (case z9704w3 => k_upd); (case z9704v1 => k_upd); (case z9704v2 => k_upd); (case z9704v3 => k_upd); (case z9704e1 => omega); (case z9704e2 => omega); (case z9704e3 => omega); (case z9704e4 => omega); (case z9704e5 => omega); (case z9704e6 => omega); (case z9704e7 => first | exact rfl | omega); (case z9704e8 => exact (congrArg roleAt (by assumption)).trans (by decide +kernel)); (case z9704b1 => exact (by decide +kernel)); (case z9704b2 => exact (by decide +kernel)); (case z9704b3 => exact (by decide +kernel)); (case z9704b4 => exact (by decide +kernel)); (case z9704b5 => exact (by decide +kernel)); (case z9704hs => exact (by decide +kernel)); (case z9704u => first | ke_room | ktr_room))))
  k_with "call ref" =>
    fail_if_success (k_extra "off L150")
    ((k_here; (with_reducible show wpAny _ _ (call (Value.ref (k_addr% "_law_pool")) [Value.ref _, Value.int 0 _]) _ _ _); k_dflt (refine' poolAt ?z3169B ?z3169F ?z3169X ?z3169N ?z3169T ?z3169K ?z3169w1 ?z3169w2 ?z3169hs ?z3169hI ?z3169hl ?z3169d ?z3169u ?_; (case z3169F => k_asm); (case z3169B => k_asm); (case z3169X => k_asm); (case z3169N => k_asm); (case z3169T => k_asm); (case z3169K => first | exact rfl | assumption); (case z3169d => ktr_room); (case z3169u => ktr_room); (case z3169w1 => k_upd); (case z3169w2 => k_upd); (case z3169hs => assumption); (case z3169hI => assumption); (case z3169hl => omega); intro D' x' y' tx' ty' h' tk' F' N' hp' n1' n2'; (try dsimp only))))
  k_with "call ref" =>
    fail_if_success (k_extra "off L150")
    ((k_here; (with_reducible show wpAny _ _ (call (Value.ref (k_addr% "_law_vectors_right")) [Value.ref _]) _ _ _); k_dflt (refine' vrightAt ?z6562F ?z6562B ?z6562X ?z6562N ?z6562w ?z6562ne ?z6562T ?z6562K ?z6562p ?z6562d ?z6562u ?_; (case z6562F => k_asm); (case z6562B => k_asm); (case z6562X => k_asm); (case z6562N => k_asm); (case z6562T => k_asm); (case z6562K => first | exact rfl | assumption); (case z6562d => ktr_room); (case z6562u => ktr_room); (case z6562w => k_upd); (case z6562ne => k_all); (case z6562p => assumption); intro x' y' tx' ty' h' tk' F' N' hp'; (try dsimp only))))
  k_with "my k_updF" =>
    fail_if_success (k_extra "off L150")
    ((with_reducible show UpdF _ _ _ _); first | exact UpdF.head (by k_all) | exact UpdF.tail (by (dsimp only; first | assumption | exact Ne.symm (by assumption) | k_ne)) (by k_updF))
  k_with "my k_all" =>
    fail_if_success (k_extra "off L150")
    (first | assumption | exact List.forall_mem_nil _ | (refine' List.forall_mem_cons.mpr ⟨?_, ?_⟩; (next => (dsimp only; first | assumption | exact Ne.symm (by assumption) | k_ne)); (next => k_all)))
  k_with "call ref" =>
    fail_if_success (k_extra "off L150")
    ((k_here; (with_reducible show wpAny _ _ (call (Value.ref (k_addr% "_law_row_right")) [Value.ref _]) _ _ _); refine IfStop.mk ?_))
  k_with "McL" =>
    fail_if_success (k_extra "off L150")
    (((with_reducible show McL _ _ _ _ _ _ _ _ _ _ _ _ _ _ _ [] _); refine IfStop.mk ?_))
  k_with "call ref" =>
    fail_if_success (k_extra "off L150")
    ((k_here; (with_reducible show wpAny _ _ (call (Value.ref (k_addr% "read_row")) [Value.bytes _ _]) _ _ _); (have hM9 : Mark6 := by assumption); clear hM9; k_dflt (refine' readrow _ _ _ _ _ _ _ _ _ _ _ _ _ _ _ _ _ _ _ _ _ _ _ _ _ _ _ _ _ _ _ _ _ _ _ _ ?z4872B ?z4872F ?z4872X ?z4872N ?z4872T ?z4872K ?z4872hb ?z4872r0 ?z4872r1 ?z4872r2 ?z4872r13 ?z4872r14 ?z4872d ?z4872u (fun x' dx' rg' fd' fD' k' inst' low' mac' cost' prio' port' t1' t2' t3' t4' t5' t6' t7' t8' q1' q2' q3' q4' q5' q6' q7' q8' h' tk' e1' e2' e3' e4' e5' e6' e7' hD' F' N' => ?_); (case z4872F => k_asm); (case z4872B => k_asm); (case z4872X => k_asm); (case z4872N => k_asm); (case z4872T => k_asm); (case z4872K => first | exact rfl | assumption); (case z4872d => ktr_room); (case z4872u => ktr_room); (case z4872hb => assumption); (case z4872r0 => first | assumption | exact ⟨by assumption, by assumption⟩); (case z4872r1 => first | assumption | exact ⟨by assumption, by assumption⟩); (case z4872r2 => first | assumption | exact ⟨by assumption, by assumption⟩); (case z4872r13 => first | assumption | exact ⟨by assumption, by assumption⟩); (case z4872r14 => first | assumption | exact ⟨by assumption, by assumption⟩); (subst e7' e6' e5' e4' e3' e2' e1'); (try dsimp only))))
  k_with "call ref" =>
    fail_if_success (k_extra "off L150")
    ((k_here; (with_reducible show wpAny _ _ (call (Value.ref (k_addr% "_law_told")) [Value.bytes _ _]) _ _ _); k_dflt (refine' ltold _ _ _ _ _ _ _ _ _ _ _ _ _ _ _ _ _ _ _ _ _ _ _ _ _ _ _ _ _ _ _ _ _ _ _ _ ?z5070B ?z5070F ?z5070X ?z5070N ?z5070T ?z5070K ?z5070hb ?z5070r0 ?z5070r1 ?z5070r2 ?z5070r13 ?z5070r14 ?z5070d ?z5070u (fun D' rg' T9' k' inst' low' mac' cost' prio' port' v1' v2' v3' v4' v5' t1' t2' t3' t4' t5' t6' t7' t8' h' tk' e1' e2' e3' e4' e5' e6' e7' g1' g2' g3' g4' g5' F' N' => ?_); (case z5070F => k_asm); (case z5070B => k_asm); (case z5070X => k_asm); (case z5070N => k_asm); (case z5070T => k_asm); (case z5070K => first | exact rfl | assumption); (case z5070d => ktr_room); (case z5070u => ktr_room); (case z5070hb => assumption); (case z5070r0 => first | assumption | exact ⟨by assumption, by assumption⟩); (case z5070r1 => first | assumption | exact ⟨by assumption, by assumption⟩); (case z5070r2 => first | assumption | exact ⟨by assumption, by assumption⟩); (case z5070r13 => first | assumption | exact ⟨by assumption, by assumption⟩); (case z5070r14 => first | assumption | exact ⟨by assumption, by assumption⟩); (subst g5' g4' g3' g2' g1' e7' e6' e5' e4' e3' e2' e1'); (try dsimp only))))
  k_with "compareOp Eq ref ref" =>
    fail_if_success (k_extra "off L150")
    ((k_here; (with_reducible show wpAny _ _ (compareOp CmpOp.Eq (Value.ref _) (Value.ref _)) _ _ _); k_dflt (refine' (told_eqv ?z133N ?z133w1 ?z133w2 ?z133w3 ?z133v1 ?z133v2 ?z133v3 ?z133e1 ?z133e2 ?z133e3 ?z133e4 ?z133e5 ?z133e6 ?z133e7 ?z133e8 ?z133b1 ?z133b2 ?z133b3 ?z133b4 ?z133b5 ?z133hs ?z133u).1 ?_; (case z133N => k_asm); (case z133w1 => k_upd); (case z133w2 => k_upd); (case z133w3 => k_upd); (case z133v1 => k_upd); (case z133v2 => k_upd); (case z133v3 => k_upd); (case z133e1 => exact rfl); (case z133e2 => exact rfl); (case z133e3 => exact rfl); (case z133e4 => exact rfl); (case z133e5 => exact rfl); (case z133e6 => exact rfl); (case z133e7 => exact rfl); (case z133e8 => exact rfl); (case z133b1 => exact rfl); (case z133b2 => exact rfl); (case z133b3 => exact rfl); (case z133b4 => exact rfl); (case z133b5 => exact rfl); (case z133hs => exact roleAt_is); (case z133u => first | ke_room | ktr_room))))
  k_with "call ref" =>
    fail_if_success (k_extra "off L150")
    ((k_here; (with_reducible show wpAny _ _ (call (Value.ref (k_addr% "_law_one")) [Value.ref _, Value.ref _]) _ _ _); k_dflt (refine' oneD_byte ?z6158F ?z6158B ?z6158X ?z6158N ?z6158w ?z6158hm ?z6158ne ?z6158T ?z6158K ?z6158p ?z6158a ?z6158b ?z6158d ?z6158u ?_; (case z6158F => k_asm); (case z6158B => k_asm); (case z6158X => k_asm); (case z6158N => k_asm); (case z6158T => k_asm); (case z6158K => first | exact rfl | assumption); (case z6158d => ktr_room); (case z6158u => ktr_room); (case z6158w => k_upd); (case z6158hm => k_upd); (case z6158ne => k_all); (case z6158p => assumption); (case z6158a => assumption); (case z6158b => assumption); intro k' t' x' y' tx' ty' h' tk' lo' hi' F' N' hp' off'; (try dsimp only))))
  k_with "my by_in" =>
    fail_if_success (k_extra "off L150")
    ((decide))
  k_with "newList" =>
    fail_if_success (k_extra "off L150")
    (k_here; k_dflt (refine' newList_L ?nl1 ?nl2 ?_; (case nl1 => k_asm); (case nl2 => k_asm); k_whole); intro l' h' F' o9 N' l1; (try k_lt l1); (try k_sweep))
  k_with "newTuple" =>
    fail_if_success (k_extra "off L150")
    (k_here; k_dflt (refine' newTuple_L ?nt1 ?nt2 ?_ ?nt3; (case nt1 => k_asm); (case nt2 => k_asm); (case nt3 => kmk_size)); intro D' h' F' o9 N' l1; (try k_lt l1); (try k_sweep))
  k_with "eval Name" =>
    fail_if_success (k_extra "off L150")
    (k_here; (fail_if_success (with_reducible show wpAny _ _ (eval (Expr.Name _ _) (compEnvC _ _ _ _)) _ _ _)); k_dflt (first
      | (refine' nameX_L ?fwfF ?fwfv ?_ ?fwfa ?fwfb; (case fwfF => k_asm); (case fwfa => rfl); (case fwfb => rfl); (case fwfv => rfl); k_whole)
      | (refine' nameX_K ?fwgF ?fwgX ?fwgT ?fwge ?_ ?fwga ?fwgb; (case fwgF => k_asm); (case fwgX => k_asm); (case fwgT => k_asm); (case fwga => rfl); (case fwgb => rfl); (case fwge => k_is); k_whole)
      | fail))
  k_with "mcl guard" =>
    fail_if_success (k_extra "off L150")
    skip
  trivial
theorem tlaw : PySem.Challenge.rw_xm0976_01.Holds := (by exact use_of : Use _ (hdS rfl rfl rfl (by
 first
 | (
  k_go0
  (all_goals try k_fold)
  k_steps
  unfold IfStop
  k_dflt (refine' rowAt0 ?F ?B ?X ?N ?wo ?wt ?hne ?h235 ?T ?K ?hp ?hC ?St ?d ?u ?_)
  case F => k_asm
  case B => k_asm
  case X => k_asm
  case N => k_asm
  case wo => k_upd
  case wt => k_upd
  case hne => k_all
  case h235 => k_all
  case T => k_asm
  case K => first | exact rfl | assumption
  case hp => assumption
  case hC => exact codeHd
  case St => exact .inl rfl
  case d => ktr_room
  case u => ktr_room
  intro ps1 ext1 x1 y1 tx1 ty1 h' tk' F' N' hp' S1 O1
  have e1 := ExtOk.src O1
  have e2 := ExtOk.tab O1
  have e3 := ExtOk.off O1 N' (fun p hp => .tail _ (.tail _ (.tail _ (.tail _ hp)))) (.tail _ (.tail _ (.head _))) noRec_it
  have S1' := TabIn1.drop (TabIn1.drop S1 noRec_it) (noRec_cell (by assumption))
  clear S1 O1
  simp only [List.cons_append, List.nil_append] at N'
  (try dsimp only)
  k_steps
  unfold IfStop
  k_dflt (refine' rowAt0 ?F ?B ?X ?N ?wo ?wt ?hne ?h235 ?T ?K ?hp ?hC ?St ?d ?u ?_)
  case F => k_asm
  case B => k_asm
  case X => k_asm
  case N => k_asm
  case wo => k_upd
  case wt => k_upd
  case hne => k_all
  case h235 => k_all
  case T => k_asm
  case K => first | exact rfl | assumption
  case hp => assumption
  case hC => exact codeHd
  case St => exact TabIn1.up S1' (fun p hp => by repeat (first | exact hp | apply List.Mem.tail))
  case d => ktr_room
  case u => ktr_room
  intro ps2 ext2 x2 y2 tx2 ty2 h' tk' F' N' hp' S2 O2
  have e4 := ExtOk.src O2
  have e5 := ExtOk.tab O2
  have e6 := ExtOk.off O2 N' (fun p hp => by repeat (first | exact hp | apply List.Mem.tail | exact List.mem_append_right _ hp)) (.tail _ (.tail _ (.head _))) noRec_it
  have e7 : ∀ p ∈ ext1 ++ ext2, p.1 ≠ _ := fun p hp => (List.mem_append.mp hp).elim (e3 p) (e6 p)
  have e8 : ∀ p ∈ ext1 ++ ext2, p.1 ≠ _ := fun p hp => (List.mem_append.mp hp).elim (e1 p) (e4 p)
  have e9 : ∀ p ∈ ext1 ++ ext2, @Ne Nat p.1 235 := fun p hp => (List.mem_append.mp hp).elim (e2 p) (e5 p)
  clear S2 O2 S1' e1 e2 e3 e4 e5 e6
  simp only [List.cons_append] at N'
  generalize ext1 ++ ext2 = ext3 at N' e7 e8 e9
  (try dsimp only)
  k_steps
  unfold IfStop
  refine' McL.bytes0 ?wo ?hp ?step ?fin
  case wo => k_upd
  case hp => assumption
  case step =>
    intro asg r ys x y tx ty hp K9
    k_steps
    exact K9 _ _ _ _ _ _ (by assumption) (by assumption) (by assumption)
  case fin =>
    intro zs x' y' tx' ty' hp' hb hl
    refine bytes_cons (P := fun zs => PyProof.Rows.LCg.FinE _ _ _ _ _ (zs) _) hb (hl.trans rfl) (fun k0 t0 zs0 a0 hb0 hl0 => ?_)
    clear hb hl
    refine bytes_cons (P := fun zs => PyProof.Rows.LCg.FinE _ _ _ _ _ (.int k0 t0 :: zs) _) hb0 hl0 (fun k1 t1 zs1 a1 hb1 hl1 => ?_)
    clear hb0 hl0
    refine bytes_cons (P := fun zs => PyProof.Rows.LCg.FinE _ _ _ _ _ (.int k0 t0 :: .int k1 t1 :: zs) _) hb1 hl1 (fun k2 t2 zs2 a2 hb2 hl2 => ?_)
    clear hb1 hl1
    refine bytes_cons (P := fun zs => PyProof.Rows.LCg.FinE _ _ _ _ _ (.int k0 t0 :: .int k1 t1 :: .int k2 t2 :: zs) _) hb2 hl2 (fun k3 t3 zs3 a3 hb3 hl3 => ?_)
    clear hb2 hl2
    refine bytes_cons (P := fun zs => PyProof.Rows.LCg.FinE _ _ _ _ _ (.int k0 t0 :: .int k1 t1 :: .int k2 t2 :: .int k3 t3 :: zs) _) hb3 hl3 (fun k4 t4 zs4 a4 hb4 hl4 => ?_)
    clear hb3 hl3
    refine bytes_cons (P := fun zs => PyProof.Rows.LCg.FinE _ _ _ _ _ (.int k0 t0 :: .int k1 t1 :: .int k2 t2 :: .int k3 t3 :: .int k4 t4 :: zs) _) hb4 hl4 (fun k5 t5 zs5 a5 hb5 hl5 => ?_)
    clear hb4 hl4
    refine bytes_cons (P := fun zs => PyProof.Rows.LCg.FinE _ _ _ _ _ (.int k0 t0 :: .int k1 t1 :: .int k2 t2 :: .int k3 t3 :: .int k4 t4 :: .int k5 t5 :: zs) _) hb5 hl5 (fun k6 t6 zs6 a6 hb6 hl6 => ?_)
    clear hb5 hl5
    refine bytes_cons (P := fun zs => PyProof.Rows.LCg.FinE _ _ _ _ _ (.int k0 t0 :: .int k1 t1 :: .int k2 t2 :: .int k3 t3 :: .int k4 t4 :: .int k5 t5 :: .int k6 t6 :: zs) _) hb6 hl6 (fun k7 t7 zs7 a7 hb7 hl7 => ?_)
    clear hb6 hl6
    refine bytes_cons (P := fun zs => PyProof.Rows.LCg.FinE _ _ _ _ _ (.int k0 t0 :: .int k1 t1 :: .int k2 t2 :: .int k3 t3 :: .int k4 t4 :: .int k5 t5 :: .int k6 t6 :: .int k7 t7 :: zs) _) hb7 hl7 (fun k8 t8 zs8 a8 hb8 hl8 => ?_)
    clear hb7 hl7
    refine bytes_cons (P := fun zs => PyProof.Rows.LCg.FinE _ _ _ _ _ (.int k0 t0 :: .int k1 t1 :: .int k2 t2 :: .int k3 t3 :: .int k4 t4 :: .int k5 t5 :: .int k6 t6 :: .int k7 t7 :: .int k8 t8 :: zs) _) hb8 hl8 (fun k9 t9 zs9 a9 hb9 hl9 => ?_)
    clear hb8 hl8
    refine bytes_cons (P := fun zs => PyProof.Rows.LCg.FinE _ _ _ _ _ (.int k0 t0 :: .int k1 t1 :: .int k2 t2 :: .int k3 t3 :: .int k4 t4 :: .int k5 t5 :: .int k6 t6 :: .int k7 t7 :: .int k8 t8 :: .int k9 t9 :: zs) _) hb9 hl9 (fun k10 t10 zs10 a10 hb10 hl10 => ?_)
    clear hb9 hl9
    refine bytes_cons (P := fun zs => PyProof.Rows.LCg.FinE _ _ _ _ _ (.int k0 t0 :: .int k1 t1 :: .int k2 t2 :: .int k3 t3 :: .int k4 t4 :: .int k5 t5 :: .int k6 t6 :: .int k7 t7 :: .int k8 t8 :: .int k9 t9 :: .int k10 t10 :: zs) _) hb10 hl10 (fun k11 t11 zs11 a11 hb11 hl11 => ?_)
    clear hb10 hl10
    refine bytes_cons (P := fun zs => PyProof.Rows.LCg.FinE _ _ _ _ _ (.int k0 t0 :: .int k1 t1 :: .int k2 t2 :: .int k3 t3 :: .int k4 t4 :: .int k5 t5 :: .int k6 t6 :: .int k7 t7 :: .int k8 t8 :: .int k9 t9 :: .int k10 t10 :: .int k11 t11 :: zs) _) hb11 hl11 (fun k12 t12 zs12 a12 hb12 hl12 => ?_)
    clear hb11 hl11
    refine bytes_cons (P := fun zs => PyProof.Rows.LCg.FinE _ _ _ _ _ (.int k0 t0 :: .int k1 t1 :: .int k2 t2 :: .int k3 t3 :: .int k4 t4 :: .int k5 t5 :: .int k6 t6 :: .int k7 t7 :: .int k8 t8 :: .int k9 t9 :: .int k10 t10 :: .int k11 t11 :: .int k12 t12 :: zs) _) hb12 hl12 (fun k13 t13 zs13 a13 hb13 hl13 => ?_)
    clear hb12 hl12
    refine bytes_cons (P := fun zs => PyProof.Rows.LCg.FinE _ _ _ _ _ (.int k0 t0 :: .int k1 t1 :: .int k2 t2 :: .int k3 t3 :: .int k4 t4 :: .int k5 t5 :: .int k6 t6 :: .int k7 t7 :: .int k8 t8 :: .int k9 t9 :: .int k10 t10 :: .int k11 t11 :: .int k12 t12 :: .int k13 t13 :: zs) _) hb13 hl13 (fun k14 t14 zs14 a14 hb14 hl14 => ?_)
    clear hb13 hl13
    refine bytes_cons (P := fun zs => PyProof.Rows.LCg.FinE _ _ _ _ _ (.int k0 t0 :: .int k1 t1 :: .int k2 t2 :: .int k3 t3 :: .int k4 t4 :: .int k5 t5 :: .int k6 t6 :: .int k7 t7 :: .int k8 t8 :: .int k9 t9 :: .int k10 t10 :: .int k11 t11 :: .int k12 t12 :: .int k13 t13 :: .int k14 t14 :: zs) _) hb14 hl14 (fun k15 t15 zs15 a15 hb15 hl15 => ?_)
    clear hb14 hl14
    refine bytes_nil (P := fun zs => PyProof.Rows.LCg.FinE _ _ _ _ _ (.int k0 t0 :: .int k1 t1 :: .int k2 t2 :: .int k3 t3 :: .int k4 t4 :: .int k5 t5 :: .int k6 t6 :: .int k7 t7 :: .int k8 t8 :: .int k9 t9 :: .int k10 t10 :: .int k11 t11 :: .int k12 t12 :: .int k13 t13 :: .int k14 t14 :: .int k15 t15 :: zs) _) hl15 ?_
    clear hb15 hl15
    have hb16 := bis16 ⟨a0.1, a0.2, a1.1, a1.2, a2.1, a2.2, a3.1, a3.2, a4.1, a4.2, a5.1, a5.2, a6.1, a6.2, a7.1, a7.2, a8.1, a8.2, a9.1, a9.2, a10.1, a10.2, a11.1, a11.2, a12.1, a12.2, a13.1, a13.2, a14.1, a14.2, a15.1, a15.2⟩
    have hM9 : Mark6 := ⟨⟩
    (try dsimp only)
    k_steps
    all_goals trace_state
    all_goals w_report
  )
 | fail)))
theorem wdoL150 : True := by
  k_with "off L150" => skip
  trivial
end
end
end Mine
theorem PySem.Challenge.cw_xm0976_01_holds : PySem.Challenge.rw_xm0976_01.Holds :=
  Mine.tlaw
