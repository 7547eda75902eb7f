import PyProof.Rows.All
import Wide.All
import OpenK.AllK
import Wide.FinOn
import Lean
import PySem.Challenge.RW_rg0005_01
set_option Elab.async false
set_option maxRecDepth 100000
set_option maxHeartbeats 16000000
open PySem PySem.W PyProof.Rows PySem.Spec PySem.Calls
namespace Mine
abbrev stAt (i : Nat) : Option Stmt := PySem.Challenge.pw_rg0005_01.main.body[i]?
noncomputable def inCls (c : Option Stmt) (i : Nat) : Option Stmt := match c with
  | some (.ClassDef _ _ _ b _ _ _ _ _ _ _) => b[i]?
  | _ => none
def IsFn (o : Option Stmt) (a : Arguments) (b : List Stmt) (s : Scope) : Prop := ∃ n d r t f q p, o = some (.FunctionDef n a b d r t s f q p)
noncomputable def KK : Params → Frag := by
  intro P
  refine (?f : ∀ (a29 : Arguments) (b29 : List Stmt) (s29 : Scope) (_ : IsFn (inCls (stAt 2) 0) a29 b29 s29) (a50 : Arguments) (b50 : List Stmt) (s50 : Scope) (_ : IsFn (inCls (stAt 3) 0) a50 b50 s50) (a64 : Arguments) (b64 : List Stmt) (s64 : Scope) (_ : IsFn (stAt 4) a64 b64 s64) (a71 : Arguments) (b71 : List Stmt) (s71 : Scope) (_ : IsFn (stAt 5) a71 b71 s71) (a78 : Arguments) (b78 : List Stmt) (s78 : Scope) (_ : IsFn (stAt 6) a78 b78 s78) (a85 : Arguments) (b85 : List Stmt) (s85 : Scope) (_ : IsFn (stAt 7) a85 b85 s85) (a92 : Arguments) (b92 : List Stmt) (s92 : Scope) (_ : IsFn (stAt 8) a92 b92 s92) (a99 : Arguments) (b99 : List Stmt) (s99 : Scope) (_ : IsFn (stAt 9) a99 b99 s99) (a106 : Arguments) (b106 : List Stmt) (s106 : Scope) (_ : IsFn (stAt 10) a106 b106 s106) (a113 : Arguments) (b113 : List Stmt) (s113 : Scope) (_ : IsFn (stAt 11) a113 b113 s113) (a120 : Arguments) (b120 : List Stmt) (s120 : Scope) (_ : IsFn (stAt 12) a120 b120 s120) (a127 : Arguments) (b127 : List Stmt) (s127 : Scope) (_ : IsFn (stAt 13) a127 b127 s127) (a134 : Arguments) (b134 : List Stmt) (s134 : Scope) (_ : IsFn (stAt 15) a134 b134 s134) (a148 : Arguments) (b148 : List Stmt) (s148 : Scope) (_ : IsFn (inCls (stAt 17) 0) a148 b148 s148) (a168 : Arguments) (b168 : List Stmt) (s168 : Scope) (_ : IsFn (inCls (stAt 18) 0) a168 b168 s168) (a180 : Arguments) (b180 : List Stmt) (s180 : Scope) (_ : IsFn (stAt 21) a180 b180 s180) (a187 : Arguments) (b187 : List Stmt) (s187 : Scope) (_ : IsFn (stAt 23) a187 b187 s187) (a194 : Arguments) (b194 : List Stmt) (s194 : Scope) (_ : IsFn (stAt 24) a194 b194 s194) (a201 : Arguments) (b201 : List Stmt) (s201 : Scope) (_ : IsFn (stAt 25) a201 b201 s201) (a206 : Arguments) (b206 : List Stmt) (s206 : Scope) (_ : IsFn (stAt 26) a206 b206 s206) (a211 : Arguments) (b211 : List Stmt) (s211 : Scope) (_ : IsFn (stAt 27) a211 b211 s211) (a226 : Arguments) (b226 : List Stmt) (s226 : Scope) (_ : IsFn (stAt 30) a226 b226 s226) (a231 : Arguments) (b231 : List Stmt) (s231 : Scope) (_ : IsFn (stAt 31) a231 b231 s231) (a236 : Arguments) (b236 : List Stmt) (s236 : Scope) (_ : IsFn (stAt 32) a236 b236 s236), Frag) _ _ _ ⟨_, _, _, _, _, _, _, rfl⟩ _ _ _ ⟨_, _, _, _, _, _, _, rfl⟩ _ _ _ ⟨_, _, _, _, _, _, _, rfl⟩ _ _ _ ⟨_, _, _, _, _, _, _, rfl⟩ _ _ _ ⟨_, _, _, _, _, _, _, rfl⟩ _ _ _ ⟨_, _, _, _, _, _, _, rfl⟩ _ _ _ ⟨_, _, _, _, _, _, _, rfl⟩ _ _ _ ⟨_, _, _, _, _, _, _, rfl⟩ _ _ _ ⟨_, _, _, _, _, _, _, rfl⟩ _ _ _ ⟨_, _, _, _, _, _, _, rfl⟩ _ _ _ ⟨_, _, _, _, _, _, _, rfl⟩ _ _ _ ⟨_, _, _, _, _, _, _, rfl⟩ _ _ _ ⟨_, _, _, _, _, _, _, rfl⟩ _ _ _ ⟨_, _, _, _, _, _, _, rfl⟩ _ _ _ ⟨_, _, _, _, _, _, _, rfl⟩ _ _ _ ⟨_, _, _, _, _, _, _, rfl⟩ _ _ _ ⟨_, _, _, _, _, _, _, rfl⟩ _ _ _ ⟨_, _, _, _, _, _, _, rfl⟩ _ _ _ ⟨_, _, _, _, _, _, _, rfl⟩ _ _ _ ⟨_, _, _, _, _, _, _, rfl⟩ _ _ _ ⟨_, _, _, _, _, _, _, rfl⟩ _ _ _ ⟨_, _, _, _, _, _, _, rfl⟩ _ _ _ ⟨_, _, _, _, _, _, _, rfl⟩ _ _ _ ⟨_, _, _, _, _, _, _, rfl⟩
  exact fun a29 b29 s29 _ a50 b50 s50 _ a64 b64 s64 _ a71 b71 s71 _ a78 b78 s78 _ a85 b85 s85 _ a92 b92 s92 _ a99 b99 s99 _ a106 b106 s106 _ a113 b113 s113 _ a120 b120 s120 _ a127 b127 s127 _ a134 b134 s134 _ a148 b148 s148 _ a168 b168 s168 _ a180 b180 s180 _ a187 b187 s187 _ a194 b194 s194 _ a201 b201 s201 _ a206 b206 s206 _ a211 b211 s211 _ a226 b226 s226 _ a231 b231 s231 _ a236 b236 s236 _ =>
  (nat_lit 2, { cls := PySem.Value.none, data := PySem.Data.dict #[{ hash := PySem.PyData.keyHash P (PySem.Str.ofString "type.__subclasses__.Exception.0"), key := PySem.Value.str (PySem.Str.ofString "type.__subclasses__.Exception.0") 401, val := PySem.Value.int 151 0 }, { hash := PySem.PyData.keyHash P (PySem.Str.ofString "type.__subclasses__.Exception.n"), key := PySem.Value.str (PySem.Str.ofString "type.__subclasses__.Exception.n") 402, val := PySem.Value.int 1 0 }] 2 }) ::
  (nat_lit 3, { cls := PySem.Value.type "dict", data := PySem.Data.dict #[{ hash := PySem.PyData.keyHash P (PySem.Str.ofString "__name__"), key := PySem.Value.str (PySem.Str.ofString "__name__") 165, val := PySem.Value.str (PySem.Str.ofString "law_rg0005_01") 484 }, { hash := PySem.PyData.keyHash P (PySem.Str.ofString "__doc__"), key := PySem.Value.str (PySem.Str.ofString "__doc__") 166, val := PySem.Value.none }, { hash := PySem.PyData.keyHash P (PySem.Str.ofString "__package__"), key := PySem.Value.str (PySem.Str.ofString "__package__") 167, val := PySem.Value.none }, { hash := PySem.PyData.keyHash P (PySem.Str.ofString "__loader__"), key := PySem.Value.str (PySem.Str.ofString "__loader__") 168, val := PySem.Value.builtin "__main__.__loader__#opaque" }, { hash := PySem.PyData.keyHash P (PySem.Str.ofString "__spec__"), key := PySem.Value.str (PySem.Str.ofString "__spec__") 169, val := PySem.Value.none }, { hash := PySem.PyData.keyHash P (PySem.Str.ofString "__annotations__"), key := PySem.Value.str (PySem.Str.ofString "__annotations__") 170, val := PySem.Value.ref 6 }, { hash := PySem.PyData.keyHash P (PySem.Str.ofString "__builtins__"), key := PySem.Value.str (PySem.Str.ofString "__builtins__") 171, val := PySem.Value.ref 4 }, { hash := PySem.PyData.keyHash P (PySem.Str.ofString "__file__"), key := PySem.Value.str (PySem.Str.ofString "__file__") 173, val := PySem.Value.str (PySem.Str.ofString "/claim/cut.py") 172 }, { hash := PySem.PyData.keyHash P (PySem.Str.ofString "__cached__"), key := PySem.Value.str (PySem.Str.ofString "__cached__") 174, val := PySem.Value.none }, { hash := PySem.PyData.keyHash P (PySem.Str.ofString "SCALAR_KINDS"), key := PySem.Value.str (PySem.Str.ofString "SCALAR_KINDS") 194, val := PySem.Value.ref 15 }, { hash := PySem.PyData.keyHash P (PySem.Str.ofString "Type"), key := PySem.Value.str (PySem.Str.ofString "Type") 247, val := PySem.Value.ref 32 }, { hash := PySem.PyData.keyHash P (PySem.Str.ofString "Subtype"), key := PySem.Value.str (PySem.Str.ofString "Subtype") 278, val := PySem.Value.ref 53 }, { hash := PySem.PyData.keyHash P (PySem.Str.ofString "int_type"), key := PySem.Value.str (PySem.Str.ofString "int_type") 288, val := PySem.Value.ref 64 }, { hash := PySem.PyData.keyHash P (PySem.Str.ofString "enum_type"), key := PySem.Value.str (PySem.Str.ofString "enum_type") 297, val := PySem.Value.ref 71 }, { hash := PySem.PyData.keyHash P (PySem.Str.ofString "mod_type"), key := PySem.Value.str (PySem.Str.ofString "mod_type") 306, val := PySem.Value.ref 78 }, { hash := PySem.PyData.keyHash P (PySem.Str.ofString "array_type"), key := PySem.Value.str (PySem.Str.ofString "array_type") 317, val := PySem.Value.ref 85 }, { hash := PySem.PyData.keyHash P (PySem.Str.ofString "derived_type"), key := PySem.Value.str (PySem.Str.ofString "derived_type") 326, val := PySem.Value.ref 92 }, { hash := PySem.PyData.keyHash P (PySem.Str.ofString "numbered"), key := PySem.Value.str (PySem.Str.ofString "numbered") 334, val := PySem.Value.ref 99 }, { hash := PySem.PyData.keyHash P (PySem.Str.ofString "same_type"), key := PySem.Value.str (PySem.Str.ofString "same_type") 342, val := PySem.Value.ref 106 }, { hash := PySem.PyData.keyHash P (PySem.Str.ofString "is_scalar"), key := PySem.Value.str (PySem.Str.ofString "is_scalar") 349, val := PySem.Value.ref 113 }, { hash := PySem.PyData.keyHash P (PySem.Str.ofString "is_numeric"), key := PySem.Value.str (PySem.Str.ofString "is_numeric") 356, val := PySem.Value.ref 120 }, { hash := PySem.PyData.keyHash P (PySem.Str.ofString "whole_subtype"), key := PySem.Value.str (PySem.Str.ofString "whole_subtype") 363, val := PySem.Value.ref 127 }, { hash := PySem.PyData.keyHash P (PySem.Str.ofString "comes_from"), key := PySem.Value.str (PySem.Str.ofString "comes_from") 373, val := PySem.Value.ref 134 }, { hash := PySem.PyData.keyHash P (PySem.Str.ofString "AdaError"), key := PySem.Value.str (PySem.Str.ofString "AdaError") 404, val := PySem.Value.ref 151 }, { hash := PySem.PyData.keyHash P (PySem.Str.ofString "CheckFault"), key := PySem.Value.str (PySem.Str.ofString "CheckFault") 430, val := PySem.Value.ref 171 }, { hash := PySem.PyData.keyHash P (PySem.Str.ofString "MOST_PRIVATE"), key := PySem.Value.str (PySem.Str.ofString "MOST_PRIVATE") 434, val := PySem.Value.int 41 433 }, { hash := PySem.PyData.keyHash P (PySem.Str.ofString "full_subtype"), key := PySem.Value.str (PySem.Str.ofString "full_subtype") 443, val := PySem.Value.ref 180 }, { hash := PySem.PyData.keyHash P (PySem.Str.ofString "shown_line"), key := PySem.Value.str (PySem.Str.ofString "shown_line") 453, val := PySem.Value.ref 187 }, { hash := PySem.PyData.keyHash P (PySem.Str.ofString "told_constraint"), key := PySem.Value.str (PySem.Str.ofString "told_constraint") 461, val := PySem.Value.ref 194 }, { hash := PySem.PyData.keyHash P (PySem.Str.ofString "is_told_alike"), key := PySem.Value.str (PySem.Str.ofString "is_told_alike") 471, val := PySem.Value.ref 201 }, { hash := PySem.PyData.keyHash P (PySem.Str.ofString "rows_convertible"), key := PySem.Value.str (PySem.Str.ofString "rows_convertible") 477, val := PySem.Value.ref 206 }, { hash := PySem.PyData.keyHash P (PySem.Str.ofString "is_convertible"), key := PySem.Value.str (PySem.Str.ofString "is_convertible") 483, val := PySem.Value.ref 211 }, { hash := PySem.PyData.keyHash P (PySem.Str.ofString "_law_bounds"), key := PySem.Value.str (PySem.Str.ofString "_law_bounds") 508, val := PySem.Value.ref 219 }, { hash := PySem.PyData.keyHash P (PySem.Str.ofString "_law_rap"), key := PySem.Value.str (PySem.Str.ofString "_law_rap") 516, val := PySem.Value.ref 226 }, { hash := PySem.PyData.keyHash P (PySem.Str.ofString "_law_row"), key := PySem.Value.str (PySem.Str.ofString "_law_row") 522, val := PySem.Value.ref 231 }, { hash := PySem.PyData.keyHash P (PySem.Str.ofString "law"), key := PySem.Value.str (PySem.Str.ofString "law") 528, val := PySem.Value.ref 236 }] 36 }) ::
  (nat_lit 15, { cls := PySem.Value.type "tuple", data := PySem.Data.seq #[PySem.Value.str (PySem.Str.ofString "enum") 189, PySem.Value.str (PySem.Str.ofString "int") 190, PySem.Value.str (PySem.Str.ofString "mod") 191, PySem.Value.str (PySem.Str.ofString "fixed") 192, PySem.Value.str (PySem.Str.ofString "universal") 193] }) ::
  (nat_lit 23, { cls := PySem.Value.type "tuple", data := PySem.Data.seq #[] }) ::
  (nat_lit 25, { cls := PySem.Value.type "tuple", data := PySem.Data.seq #[PySem.Value.str (PySem.Str.ofString "self") 210, PySem.Value.str (PySem.Str.ofString "kind") 211, PySem.Value.str (PySem.Str.ofString "name") 212] }) ::
  (nat_lit 26, { cls := PySem.Value.type "tuple", data := PySem.Data.seq #[] }) ::
  (nat_lit 28, { cls := PySem.Value.type "code", data := PySem.Data.fields #[PySem.Value.str (PySem.Str.ofString "__init__") 207, PySem.Value.str (PySem.Str.ofString "Type.__init__") 208, PySem.Value.str (PySem.Str.ofString "/claim/cut.py") 209, PySem.Value.int 5 0, PySem.Value.int 3 0, PySem.Value.int 0 0, PySem.Value.int 0 0, PySem.Value.int 3 0, PySem.Value.ref 23, PySem.Value.bool Bool.true, PySem.Value.int 181 0, PySem.Value.ref 24, PySem.Value.none, PySem.Value.ref 25, PySem.Value.ref 26, PySem.Value.ref 27, PySem.Value.int 213 0, PySem.Value.int 5 0, PySem.Value.str (PySem.Str.ofString "/claim/cut.py") 214] }) ::
  (nat_lit 29, { cls := PySem.Value.type "function", data := PySem.Data.func { name := PySem.Str.ofString "__init__", qualname := PySem.Str.ofString "Type.__init__", params := a29, body := PySem.FuncBody.stmts b29, scope := s29, globals := 3, closure := [], defaults := PySem.Value.none, kwdefaults := PySem.Value.none, pyModule := PySem.Value.str (PySem.Str.ofString "adacore.types") 187, code := PySem.Value.ref 28 } }) ::
  (nat_lit 30, { cls := PySem.Value.type "tuple", data := PySem.Data.seq #[PySem.Value.str (PySem.Str.ofString "component") 216, PySem.Value.str (PySem.Str.ofString "components") 217, PySem.Value.str (PySem.Str.ofString "designated") 218, PySem.Value.str (PySem.Str.ofString "discriminants") 219, PySem.Value.str (PySem.Str.ofString "high") 220, PySem.Value.str (PySem.Str.ofString "index") 221, PySem.Value.str (PySem.Str.ofString "is_abstract") 222, PySem.Value.str (PySem.Str.ofString "is_constant") 223, PySem.Value.str (PySem.Str.ofString "is_constrained") 224, PySem.Value.str (PySem.Str.ofString "is_late") 225, PySem.Value.str (PySem.Str.ofString "is_limited") 226, PySem.Value.str (PySem.Str.ofString "is_private") 227, PySem.Value.str (PySem.Str.ofString "is_tagged") 228, PySem.Value.str (PySem.Str.ofString "kind") 229, PySem.Value.str (PySem.Str.ofString "literals") 230, PySem.Value.str (PySem.Str.ofString "low") 231, PySem.Value.str (PySem.Str.ofString "modulus") 232, PySem.Value.str (PySem.Str.ofString "name") 233, PySem.Value.str (PySem.Str.ofString "number") 234, PySem.Value.str (PySem.Str.ofString "operations") 235, PySem.Value.str (PySem.Str.ofString "parent") 236, PySem.Value.str (PySem.Str.ofString "small") 237, PySem.Value.str (PySem.Str.ofString "variant") 238, PySem.Value.str (PySem.Str.ofString "wide") 239] }) ::
  (nat_lit 31, { cls := PySem.Value.type "dict", data := PySem.Data.dict #[{ hash := PySem.PyData.keyHash P (PySem.Str.ofString "__module__"), key := PySem.Value.str (PySem.Str.ofString "__module__") 202, val := PySem.Value.str (PySem.Str.ofString "adacore.types") 187 }, { hash := PySem.PyData.keyHash P (PySem.Str.ofString "__firstlineno__"), key := PySem.Value.str (PySem.Str.ofString "__firstlineno__") 206, val := PySem.Value.int 3 205 }, { hash := PySem.PyData.keyHash P (PySem.Str.ofString "__init__"), key := PySem.Value.str (PySem.Str.ofString "__init__") 215, val := PySem.Value.ref 29 }, { hash := PySem.PyData.keyHash P (PySem.Str.ofString "__static_attributes__"), key := PySem.Value.str (PySem.Str.ofString "__static_attributes__") 240, val := PySem.Value.ref 30 }, { hash := PySem.PyData.keyHash P (PySem.Str.ofString "__dict__"), key := PySem.Value.str (PySem.Str.ofString "__dict__") 242, val := PySem.Value.ref 33 }, { hash := PySem.PyData.keyHash P (PySem.Str.ofString "__weakref__"), key := PySem.Value.str (PySem.Str.ofString "__weakref__") 244, val := PySem.Value.ref 34 }, { hash := PySem.PyData.keyHash P (PySem.Str.ofString "__doc__"), key := PySem.Value.str (PySem.Str.ofString "__doc__") 245, val := PySem.Value.none }] 4 }) ::
  (nat_lit 32, { cls := PySem.Value.type "type", data := PySem.Data.cls { name := PySem.Str.ofString "Type", bases := [PySem.Value.type "object"], mro := [PySem.Value.ref 32, PySem.Value.type "object"], ns := 31, qualname := PySem.Str.ofString "Type" }, slots := #[Option.none, Option.none, Option.some (PySem.Value.str (PySem.Str.ofString "Type") 195), Option.some (PySem.Value.str (PySem.Str.ofString "Type") 203), Option.some (PySem.Value.builtin "object.__new__"), Option.some (PySem.Value.bool Bool.true)] }) ::
  (nat_lit 33, { cls := PySem.Value.type "getset_descriptor", data := PySem.Data.fields #[PySem.Value.str (PySem.Str.ofString "__dict__") 241, PySem.Value.ref 32, PySem.Value.builtin "function.__dict__", PySem.Value.builtin "function.__dict__#set"] }) ::
  (nat_lit 34, { cls := PySem.Value.type "getset_descriptor", data := PySem.Data.fields #[PySem.Value.str (PySem.Str.ofString "__weakref__") 243, PySem.Value.ref 32, PySem.Value.builtin "ExceptionGroup.__weakref__", PySem.Value.none] }) ::
  (nat_lit 44, { cls := PySem.Value.type "tuple", data := PySem.Data.seq #[] }) ::
  (nat_lit 46, { cls := PySem.Value.type "tuple", data := PySem.Data.seq #[PySem.Value.str (PySem.Str.ofString "self") 263, PySem.Value.str (PySem.Str.ofString "t") 264, PySem.Value.str (PySem.Str.ofString "constraint") 265] }) ::
  (nat_lit 47, { cls := PySem.Value.type "tuple", data := PySem.Data.seq #[] }) ::
  (nat_lit 49, { cls := PySem.Value.type "code", data := PySem.Data.fields #[PySem.Value.str (PySem.Str.ofString "__init__") 260, PySem.Value.str (PySem.Str.ofString "Subtype.__init__") 261, PySem.Value.str (PySem.Str.ofString "/claim/cut.py") 262, PySem.Value.int 32 0, PySem.Value.int 3 0, PySem.Value.int 0 0, PySem.Value.int 0 0, PySem.Value.int 3 0, PySem.Value.ref 44, PySem.Value.bool Bool.true, PySem.Value.int 181 0, PySem.Value.ref 45, PySem.Value.none, PySem.Value.ref 46, PySem.Value.ref 47, PySem.Value.ref 48, PySem.Value.int 266 0, PySem.Value.int 32 0, PySem.Value.str (PySem.Str.ofString "/claim/cut.py") 267] }) ::
  (nat_lit 50, { cls := PySem.Value.type "function", data := PySem.Data.func { name := PySem.Str.ofString "__init__", qualname := PySem.Str.ofString "Subtype.__init__", params := a50, body := PySem.FuncBody.stmts b50, scope := s50, globals := 3, closure := [], defaults := PySem.Value.none, kwdefaults := PySem.Value.none, pyModule := PySem.Value.str (PySem.Str.ofString "adacore.types") 187, code := PySem.Value.ref 49 } }) ::
  (nat_lit 51, { cls := PySem.Value.type "tuple", data := PySem.Data.seq #[PySem.Value.str (PySem.Str.ofString "constraint") 269, PySem.Value.str (PySem.Str.ofString "type") 270] }) ::
  (nat_lit 52, { cls := PySem.Value.type "dict", data := PySem.Data.dict #[{ hash := PySem.PyData.keyHash P (PySem.Str.ofString "__module__"), key := PySem.Value.str (PySem.Str.ofString "__module__") 255, val := PySem.Value.str (PySem.Str.ofString "adacore.types") 187 }, { hash := PySem.PyData.keyHash P (PySem.Str.ofString "__firstlineno__"), key := PySem.Value.str (PySem.Str.ofString "__firstlineno__") 259, val := PySem.Value.int 30 258 }, { hash := PySem.PyData.keyHash P (PySem.Str.ofString "__init__"), key := PySem.Value.str (PySem.Str.ofString "__init__") 268, val := PySem.Value.ref 50 }, { hash := PySem.PyData.keyHash P (PySem.Str.ofString "__static_attributes__"), key := PySem.Value.str (PySem.Str.ofString "__static_attributes__") 271, val := PySem.Value.ref 51 }, { hash := PySem.PyData.keyHash P (PySem.Str.ofString "__dict__"), key := PySem.Value.str (PySem.Str.ofString "__dict__") 273, val := PySem.Value.ref 54 }, { hash := PySem.PyData.keyHash P (PySem.Str.ofString "__weakref__"), key := PySem.Value.str (PySem.Str.ofString "__weakref__") 275, val := PySem.Value.ref 55 }, { hash := PySem.PyData.keyHash P (PySem.Str.ofString "__doc__"), key := PySem.Value.str (PySem.Str.ofString "__doc__") 276, val := PySem.Value.none }] 4 }) ::
  (nat_lit 53, { cls := PySem.Value.type "type", data := PySem.Data.cls { name := PySem.Str.ofString "Subtype", bases := [PySem.Value.type "object"], mro := [PySem.Value.ref 53, PySem.Value.type "object"], ns := 52, qualname := PySem.Str.ofString "Subtype" }, slots := #[Option.none, Option.none, Option.some (PySem.Value.str (PySem.Str.ofString "Subtype") 248), Option.some (PySem.Value.str (PySem.Str.ofString "Subtype") 256), Option.some (PySem.Value.builtin "object.__new__"), Option.some (PySem.Value.bool Bool.true)] }) ::
  (nat_lit 54, { cls := PySem.Value.type "getset_descriptor", data := PySem.Data.fields #[PySem.Value.str (PySem.Str.ofString "__dict__") 272, PySem.Value.ref 53, PySem.Value.builtin "function.__dict__", PySem.Value.builtin "function.__dict__#set"] }) ::
  (nat_lit 55, { cls := PySem.Value.type "getset_descriptor", data := PySem.Data.fields #[PySem.Value.str (PySem.Str.ofString "__weakref__") 274, PySem.Value.ref 53, PySem.Value.builtin "ExceptionGroup.__weakref__", PySem.Value.none] }) ::
  (nat_lit 58, { cls := PySem.Value.type "tuple", data := PySem.Data.seq #[] }) ::
  (nat_lit 60, { cls := PySem.Value.type "tuple", data := PySem.Data.seq #[PySem.Value.str (PySem.Str.ofString "name") 282, PySem.Value.str (PySem.Str.ofString "low") 283, PySem.Value.str (PySem.Str.ofString "high") 284, PySem.Value.str (PySem.Str.ofString "made") 285] }) ::
  (nat_lit 61, { cls := PySem.Value.type "tuple", data := PySem.Data.seq #[] }) ::
  (nat_lit 63, { cls := PySem.Value.type "code", data := PySem.Data.fields #[PySem.Value.str (PySem.Str.ofString "int_type") 279, PySem.Value.str (PySem.Str.ofString "int_type") 280, PySem.Value.str (PySem.Str.ofString "/claim/cut.py") 281, PySem.Value.int 35 0, PySem.Value.int 3 0, PySem.Value.int 0 0, PySem.Value.int 0 0, PySem.Value.int 3 0, PySem.Value.ref 58, PySem.Value.bool Bool.true, PySem.Value.int 181 0, PySem.Value.ref 59, PySem.Value.none, PySem.Value.ref 60, PySem.Value.ref 61, PySem.Value.ref 62, PySem.Value.int 286 0, PySem.Value.int 35 0, PySem.Value.str (PySem.Str.ofString "/claim/cut.py") 287] }) ::
  (nat_lit 64, { cls := PySem.Value.type "function", data := PySem.Data.func { name := PySem.Str.ofString "int_type", qualname := PySem.Str.ofString "int_type", params := a64, body := PySem.FuncBody.stmts b64, scope := s64, globals := 3, closure := [], defaults := PySem.Value.none, kwdefaults := PySem.Value.none, pyModule := PySem.Value.str (PySem.Str.ofString "adacore.types") 187, code := PySem.Value.ref 63 } }) ::
  (nat_lit 65, { cls := PySem.Value.type "tuple", data := PySem.Data.seq #[] }) ::
  (nat_lit 67, { cls := PySem.Value.type "tuple", data := PySem.Data.seq #[PySem.Value.str (PySem.Str.ofString "name") 292, PySem.Value.str (PySem.Str.ofString "literals") 293, PySem.Value.str (PySem.Str.ofString "made") 294] }) ::
  (nat_lit 68, { cls := PySem.Value.type "tuple", data := PySem.Data.seq #[] }) ::
  (nat_lit 70, { cls := PySem.Value.type "code", data := PySem.Data.fields #[PySem.Value.str (PySem.Str.ofString "enum_type") 289, PySem.Value.str (PySem.Str.ofString "enum_type") 290, PySem.Value.str (PySem.Str.ofString "/claim/cut.py") 291, PySem.Value.int 40 0, PySem.Value.int 2 0, PySem.Value.int 0 0, PySem.Value.int 0 0, PySem.Value.int 3 0, PySem.Value.ref 65, PySem.Value.bool Bool.true, PySem.Value.int 181 0, PySem.Value.ref 66, PySem.Value.none, PySem.Value.ref 67, PySem.Value.ref 68, PySem.Value.ref 69, PySem.Value.int 295 0, PySem.Value.int 40 0, PySem.Value.str (PySem.Str.ofString "/claim/cut.py") 296] }) ::
  (nat_lit 71, { cls := PySem.Value.type "function", data := PySem.Data.func { name := PySem.Str.ofString "enum_type", qualname := PySem.Str.ofString "enum_type", params := a71, body := PySem.FuncBody.stmts b71, scope := s71, globals := 3, closure := [], defaults := PySem.Value.none, kwdefaults := PySem.Value.none, pyModule := PySem.Value.str (PySem.Str.ofString "adacore.types") 187, code := PySem.Value.ref 70 } }) ::
  (nat_lit 72, { cls := PySem.Value.type "tuple", data := PySem.Data.seq #[] }) ::
  (nat_lit 74, { cls := PySem.Value.type "tuple", data := PySem.Data.seq #[PySem.Value.str (PySem.Str.ofString "name") 301, PySem.Value.str (PySem.Str.ofString "modulus") 302, PySem.Value.str (PySem.Str.ofString "made") 303] }) ::
  (nat_lit 75, { cls := PySem.Value.type "tuple", data := PySem.Data.seq #[] }) ::
  (nat_lit 77, { cls := PySem.Value.type "code", data := PySem.Data.fields #[PySem.Value.str (PySem.Str.ofString "mod_type") 298, PySem.Value.str (PySem.Str.ofString "mod_type") 299, PySem.Value.str (PySem.Str.ofString "/claim/cut.py") 300, PySem.Value.int 46 0, PySem.Value.int 2 0, PySem.Value.int 0 0, PySem.Value.int 0 0, PySem.Value.int 3 0, PySem.Value.ref 72, PySem.Value.bool Bool.true, PySem.Value.int 181 0, PySem.Value.ref 73, PySem.Value.none, PySem.Value.ref 74, PySem.Value.ref 75, PySem.Value.ref 76, PySem.Value.int 304 0, PySem.Value.int 46 0, PySem.Value.str (PySem.Str.ofString "/claim/cut.py") 305] }) ::
  (nat_lit 78, { cls := PySem.Value.type "function", data := PySem.Data.func { name := PySem.Str.ofString "mod_type", qualname := PySem.Str.ofString "mod_type", params := a78, body := PySem.FuncBody.stmts b78, scope := s78, globals := 3, closure := [], defaults := PySem.Value.none, kwdefaults := PySem.Value.none, pyModule := PySem.Value.str (PySem.Str.ofString "adacore.types") 187, code := PySem.Value.ref 77 } }) ::
  (nat_lit 79, { cls := PySem.Value.type "tuple", data := PySem.Data.seq #[] }) ::
  (nat_lit 81, { cls := PySem.Value.type "tuple", data := PySem.Data.seq #[PySem.Value.str (PySem.Str.ofString "name") 310, PySem.Value.str (PySem.Str.ofString "index") 311, PySem.Value.str (PySem.Str.ofString "component") 312, PySem.Value.str (PySem.Str.ofString "is_constrained") 313, PySem.Value.str (PySem.Str.ofString "made") 314] }) ::
  (nat_lit 82, { cls := PySem.Value.type "tuple", data := PySem.Data.seq #[] }) ::
  (nat_lit 84, { cls := PySem.Value.type "code", data := PySem.Data.fields #[PySem.Value.str (PySem.Str.ofString "array_type") 307, PySem.Value.str (PySem.Str.ofString "array_type") 308, PySem.Value.str (PySem.Str.ofString "/claim/cut.py") 309, PySem.Value.int 52 0, PySem.Value.int 4 0, PySem.Value.int 0 0, PySem.Value.int 0 0, PySem.Value.int 3 0, PySem.Value.ref 79, PySem.Value.bool Bool.true, PySem.Value.int 181 0, PySem.Value.ref 80, PySem.Value.none, PySem.Value.ref 81, PySem.Value.ref 82, PySem.Value.ref 83, PySem.Value.int 315 0, PySem.Value.int 52 0, PySem.Value.str (PySem.Str.ofString "/claim/cut.py") 316] }) ::
  (nat_lit 85, { cls := PySem.Value.type "function", data := PySem.Data.func { name := PySem.Str.ofString "array_type", qualname := PySem.Str.ofString "array_type", params := a85, body := PySem.FuncBody.stmts b85, scope := s85, globals := 3, closure := [], defaults := PySem.Value.none, kwdefaults := PySem.Value.none, pyModule := PySem.Value.str (PySem.Str.ofString "adacore.types") 187, code := PySem.Value.ref 84 } }) ::
  (nat_lit 86, { cls := PySem.Value.type "tuple", data := PySem.Data.seq #[] }) ::
  (nat_lit 88, { cls := PySem.Value.type "tuple", data := PySem.Data.seq #[PySem.Value.str (PySem.Str.ofString "parent") 321, PySem.Value.str (PySem.Str.ofString "name") 322, PySem.Value.str (PySem.Str.ofString "made") 323] }) ::
  (nat_lit 89, { cls := PySem.Value.type "tuple", data := PySem.Data.seq #[] }) ::
  (nat_lit 91, { cls := PySem.Value.type "code", data := PySem.Data.fields #[PySem.Value.str (PySem.Str.ofString "derived_type") 318, PySem.Value.str (PySem.Str.ofString "derived_type") 319, PySem.Value.str (PySem.Str.ofString "/claim/cut.py") 320, PySem.Value.int 58 0, PySem.Value.int 2 0, PySem.Value.int 0 0, PySem.Value.int 0 0, PySem.Value.int 3 0, PySem.Value.ref 86, PySem.Value.bool Bool.true, PySem.Value.int 181 0, PySem.Value.ref 87, PySem.Value.none, PySem.Value.ref 88, PySem.Value.ref 89, PySem.Value.ref 90, PySem.Value.int 324 0, PySem.Value.int 58 0, PySem.Value.str (PySem.Str.ofString "/claim/cut.py") 325] }) ::
  (nat_lit 92, { cls := PySem.Value.type "function", data := PySem.Data.func { name := PySem.Str.ofString "derived_type", qualname := PySem.Str.ofString "derived_type", params := a92, body := PySem.FuncBody.stmts b92, scope := s92, globals := 3, closure := [], defaults := PySem.Value.none, kwdefaults := PySem.Value.none, pyModule := PySem.Value.str (PySem.Str.ofString "adacore.types") 187, code := PySem.Value.ref 91 } }) ::
  (nat_lit 93, { cls := PySem.Value.type "tuple", data := PySem.Data.seq #[] }) ::
  (nat_lit 95, { cls := PySem.Value.type "tuple", data := PySem.Data.seq #[PySem.Value.str (PySem.Str.ofString "t") 330, PySem.Value.str (PySem.Str.ofString "number") 331] }) ::
  (nat_lit 96, { cls := PySem.Value.type "tuple", data := PySem.Data.seq #[] }) ::
  (nat_lit 98, { cls := PySem.Value.type "code", data := PySem.Data.fields #[PySem.Value.str (PySem.Str.ofString "numbered") 327, PySem.Value.str (PySem.Str.ofString "numbered") 328, PySem.Value.str (PySem.Str.ofString "/claim/cut.py") 329, PySem.Value.int 78 0, PySem.Value.int 2 0, PySem.Value.int 0 0, PySem.Value.int 0 0, PySem.Value.int 3 0, PySem.Value.ref 93, PySem.Value.bool Bool.true, PySem.Value.int 181 0, PySem.Value.ref 94, PySem.Value.none, PySem.Value.ref 95, PySem.Value.ref 96, PySem.Value.ref 97, PySem.Value.int 332 0, PySem.Value.int 78 0, PySem.Value.str (PySem.Str.ofString "/claim/cut.py") 333] }) ::
  (nat_lit 99, { cls := PySem.Value.type "function", data := PySem.Data.func { name := PySem.Str.ofString "numbered", qualname := PySem.Str.ofString "numbered", params := a99, body := PySem.FuncBody.stmts b99, scope := s99, globals := 3, closure := [], defaults := PySem.Value.none, kwdefaults := PySem.Value.none, pyModule := PySem.Value.str (PySem.Str.ofString "adacore.types") 187, code := PySem.Value.ref 98 } }) ::
  (nat_lit 100, { cls := PySem.Value.type "tuple", data := PySem.Data.seq #[] }) ::
  (nat_lit 102, { cls := PySem.Value.type "tuple", data := PySem.Data.seq #[PySem.Value.str (PySem.Str.ofString "a") 338, PySem.Value.str (PySem.Str.ofString "b") 339] }) ::
  (nat_lit 103, { cls := PySem.Value.type "tuple", data := PySem.Data.seq #[] }) ::
  (nat_lit 105, { cls := PySem.Value.type "code", data := PySem.Data.fields #[PySem.Value.str (PySem.Str.ofString "same_type") 335, PySem.Value.str (PySem.Str.ofString "same_type") 336, PySem.Value.str (PySem.Str.ofString "/claim/cut.py") 337, PySem.Value.int 81 0, PySem.Value.int 2 0, PySem.Value.int 0 0, PySem.Value.int 0 0, PySem.Value.int 3 0, PySem.Value.ref 100, PySem.Value.bool Bool.true, PySem.Value.int 181 0, PySem.Value.ref 101, PySem.Value.none, PySem.Value.ref 102, PySem.Value.ref 103, PySem.Value.ref 104, PySem.Value.int 340 0, PySem.Value.int 81 0, PySem.Value.str (PySem.Str.ofString "/claim/cut.py") 341] }) ::
  (nat_lit 106, { cls := PySem.Value.type "function", data := PySem.Data.func { name := PySem.Str.ofString "same_type", qualname := PySem.Str.ofString "same_type", params := a106, body := PySem.FuncBody.stmts b106, scope := s106, globals := 3, closure := [], defaults := PySem.Value.none, kwdefaults := PySem.Value.none, pyModule := PySem.Value.str (PySem.Str.ofString "adacore.types") 187, code := PySem.Value.ref 105 } }) ::
  (nat_lit 107, { cls := PySem.Value.type "tuple", data := PySem.Data.seq #[] }) ::
  (nat_lit 109, { cls := PySem.Value.type "tuple", data := PySem.Data.seq #[PySem.Value.str (PySem.Str.ofString "t") 346] }) ::
  (nat_lit 110, { cls := PySem.Value.type "tuple", data := PySem.Data.seq #[] }) ::
  (nat_lit 112, { cls := PySem.Value.type "code", data := PySem.Data.fields #[PySem.Value.str (PySem.Str.ofString "is_scalar") 343, PySem.Value.str (PySem.Str.ofString "is_scalar") 344, PySem.Value.str (PySem.Str.ofString "/claim/cut.py") 345, PySem.Value.int 83 0, PySem.Value.int 1 0, PySem.Value.int 0 0, PySem.Value.int 0 0, PySem.Value.int 3 0, PySem.Value.ref 107, PySem.Value.bool Bool.true, PySem.Value.int 181 0, PySem.Value.ref 108, PySem.Value.none, PySem.Value.ref 109, PySem.Value.ref 110, PySem.Value.ref 111, PySem.Value.int 347 0, PySem.Value.int 83 0, PySem.Value.str (PySem.Str.ofString "/claim/cut.py") 348] }) ::
  (nat_lit 113, { cls := PySem.Value.type "function", data := PySem.Data.func { name := PySem.Str.ofString "is_scalar", qualname := PySem.Str.ofString "is_scalar", params := a113, body := PySem.FuncBody.stmts b113, scope := s113, globals := 3, closure := [], defaults := PySem.Value.none, kwdefaults := PySem.Value.none, pyModule := PySem.Value.str (PySem.Str.ofString "adacore.types") 187, code := PySem.Value.ref 112 } }) ::
  (nat_lit 114, { cls := PySem.Value.type "tuple", data := PySem.Data.seq #[] }) ::
  (nat_lit 116, { cls := PySem.Value.type "tuple", data := PySem.Data.seq #[PySem.Value.str (PySem.Str.ofString "t") 353] }) ::
  (nat_lit 117, { cls := PySem.Value.type "tuple", data := PySem.Data.seq #[] }) ::
  (nat_lit 119, { cls := PySem.Value.type "code", data := PySem.Data.fields #[PySem.Value.str (PySem.Str.ofString "is_numeric") 350, PySem.Value.str (PySem.Str.ofString "is_numeric") 351, PySem.Value.str (PySem.Str.ofString "/claim/cut.py") 352, PySem.Value.int 85 0, PySem.Value.int 1 0, PySem.Value.int 0 0, PySem.Value.int 0 0, PySem.Value.int 3 0, PySem.Value.ref 114, PySem.Value.bool Bool.true, PySem.Value.int 181 0, PySem.Value.ref 115, PySem.Value.none, PySem.Value.ref 116, PySem.Value.ref 117, PySem.Value.ref 118, PySem.Value.int 354 0, PySem.Value.int 85 0, PySem.Value.str (PySem.Str.ofString "/claim/cut.py") 355] }) ::
  (nat_lit 120, { cls := PySem.Value.type "function", data := PySem.Data.func { name := PySem.Str.ofString "is_numeric", qualname := PySem.Str.ofString "is_numeric", params := a120, body := PySem.FuncBody.stmts b120, scope := s120, globals := 3, closure := [], defaults := PySem.Value.none, kwdefaults := PySem.Value.none, pyModule := PySem.Value.str (PySem.Str.ofString "adacore.types") 187, code := PySem.Value.ref 119 } }) ::
  (nat_lit 121, { cls := PySem.Value.type "tuple", data := PySem.Data.seq #[] }) ::
  (nat_lit 123, { cls := PySem.Value.type "tuple", data := PySem.Data.seq #[PySem.Value.str (PySem.Str.ofString "t") 360] }) ::
  (nat_lit 124, { cls := PySem.Value.type "tuple", data := PySem.Data.seq #[] }) ::
  (nat_lit 126, { cls := PySem.Value.type "code", data := PySem.Data.fields #[PySem.Value.str (PySem.Str.ofString "whole_subtype") 357, PySem.Value.str (PySem.Str.ofString "whole_subtype") 358, PySem.Value.str (PySem.Str.ofString "/claim/cut.py") 359, PySem.Value.int 87 0, PySem.Value.int 1 0, PySem.Value.int 0 0, PySem.Value.int 0 0, PySem.Value.int 3 0, PySem.Value.ref 121, PySem.Value.bool Bool.true, PySem.Value.int 181 0, PySem.Value.ref 122, PySem.Value.none, PySem.Value.ref 123, PySem.Value.ref 124, PySem.Value.ref 125, PySem.Value.int 361 0, PySem.Value.int 87 0, PySem.Value.str (PySem.Str.ofString "/claim/cut.py") 362] }) ::
  (nat_lit 127, { cls := PySem.Value.type "function", data := PySem.Data.func { name := PySem.Str.ofString "whole_subtype", qualname := PySem.Str.ofString "whole_subtype", params := a127, body := PySem.FuncBody.stmts b127, scope := s127, globals := 3, closure := [], defaults := PySem.Value.none, kwdefaults := PySem.Value.none, pyModule := PySem.Value.str (PySem.Str.ofString "adacore.types") 187, code := PySem.Value.ref 126 } }) ::
  (nat_lit 128, { cls := PySem.Value.type "tuple", data := PySem.Data.seq #[] }) ::
  (nat_lit 130, { cls := PySem.Value.type "tuple", data := PySem.Data.seq #[PySem.Value.str (PySem.Str.ofString "one") 369, PySem.Value.str (PySem.Str.ofString "other") 370] }) ::
  (nat_lit 131, { cls := PySem.Value.type "tuple", data := PySem.Data.seq #[] }) ::
  (nat_lit 133, { cls := PySem.Value.type "code", data := PySem.Data.fields #[PySem.Value.str (PySem.Str.ofString "comes_from") 366, PySem.Value.str (PySem.Str.ofString "comes_from") 367, PySem.Value.str (PySem.Str.ofString "/claim/cut.py") 368, PySem.Value.int 90 0, PySem.Value.int 2 0, PySem.Value.int 0 0, PySem.Value.int 0 0, PySem.Value.int 3 0, PySem.Value.ref 128, PySem.Value.bool Bool.true, PySem.Value.int 181 0, PySem.Value.ref 129, PySem.Value.none, PySem.Value.ref 130, PySem.Value.ref 131, PySem.Value.ref 132, PySem.Value.int 371 0, PySem.Value.int 90 0, PySem.Value.str (PySem.Str.ofString "/claim/cut.py") 372] }) ::
  (nat_lit 134, { cls := PySem.Value.type "function", data := PySem.Data.func { name := PySem.Str.ofString "comes_from", qualname := PySem.Str.ofString "comes_from", params := a134, body := PySem.FuncBody.stmts b134, scope := s134, globals := 3, closure := [], defaults := PySem.Value.none, kwdefaults := PySem.Value.none, pyModule := PySem.Value.str (PySem.Str.ofString "adacore.fitting") 364, code := PySem.Value.ref 133 } }) ::
  (nat_lit 135, { cls := PySem.Value.type "tuple", data := PySem.Data.seq #[PySem.Value.type "Exception"] }) ::
  (nat_lit 142, { cls := PySem.Value.type "tuple", data := PySem.Data.seq #[] }) ::
  (nat_lit 144, { cls := PySem.Value.type "tuple", data := PySem.Data.seq #[PySem.Value.str (PySem.Str.ofString "self") 391, PySem.Value.str (PySem.Str.ofString "text") 392] }) ::
  (nat_lit 145, { cls := PySem.Value.type "tuple", data := PySem.Data.seq #[] }) ::
  (nat_lit 147, { cls := PySem.Value.type "code", data := PySem.Data.fields #[PySem.Value.str (PySem.Str.ofString "__init__") 388, PySem.Value.str (PySem.Str.ofString "AdaError.__init__") 389, PySem.Value.str (PySem.Str.ofString "/claim/cut.py") 390, PySem.Value.int 99 0, PySem.Value.int 2 0, PySem.Value.int 0 0, PySem.Value.int 0 0, PySem.Value.int 3 0, PySem.Value.ref 142, PySem.Value.bool Bool.true, PySem.Value.int 181 0, PySem.Value.ref 143, PySem.Value.none, PySem.Value.ref 144, PySem.Value.ref 145, PySem.Value.ref 146, PySem.Value.int 393 0, PySem.Value.int 99 0, PySem.Value.str (PySem.Str.ofString "/claim/cut.py") 394] }) ::
  (nat_lit 148, { cls := PySem.Value.type "function", data := PySem.Data.func { name := PySem.Str.ofString "__init__", qualname := PySem.Str.ofString "AdaError.__init__", params := a148, body := PySem.FuncBody.stmts b148, scope := s148, globals := 3, closure := [], defaults := PySem.Value.none, kwdefaults := PySem.Value.none, pyModule := PySem.Value.str (PySem.Str.ofString "adacore.errors") 374, code := PySem.Value.ref 147 } }) ::
  (nat_lit 149, { cls := PySem.Value.type "tuple", data := PySem.Data.seq #[PySem.Value.str (PySem.Str.ofString "text") 396] }) ::
  (nat_lit 150, { cls := PySem.Value.type "dict", data := PySem.Data.dict #[{ hash := PySem.PyData.keyHash P (PySem.Str.ofString "__module__"), key := PySem.Value.str (PySem.Str.ofString "__module__") 383, val := PySem.Value.str (PySem.Str.ofString "adacore.errors") 374 }, { hash := PySem.PyData.keyHash P (PySem.Str.ofString "__firstlineno__"), key := PySem.Value.str (PySem.Str.ofString "__firstlineno__") 387, val := PySem.Value.int 97 386 }, { hash := PySem.PyData.keyHash P (PySem.Str.ofString "__init__"), key := PySem.Value.str (PySem.Str.ofString "__init__") 395, val := PySem.Value.ref 148 }, { hash := PySem.PyData.keyHash P (PySem.Str.ofString "__static_attributes__"), key := PySem.Value.str (PySem.Str.ofString "__static_attributes__") 397, val := PySem.Value.ref 149 }, { hash := PySem.PyData.keyHash P (PySem.Str.ofString "__weakref__"), key := PySem.Value.str (PySem.Str.ofString "__weakref__") 399, val := PySem.Value.ref 152 }, { hash := PySem.PyData.keyHash P (PySem.Str.ofString "__doc__"), key := PySem.Value.str (PySem.Str.ofString "__doc__") 400, val := PySem.Value.none }] 3 }) ::
  (nat_lit 151, { cls := PySem.Value.type "type", data := PySem.Data.cls { name := PySem.Str.ofString "AdaError", bases := [PySem.Value.type "Exception"], mro := [PySem.Value.ref 151, PySem.Value.type "Exception", PySem.Value.type "BaseException", PySem.Value.type "object"], ns := 150, qualname := PySem.Str.ofString "AdaError", subclasses := [PySem.Value.ref 171] }, slots := #[Option.some (PySem.Value.ref 135), Option.none, Option.some (PySem.Value.str (PySem.Str.ofString "AdaError") 376), Option.some (PySem.Value.str (PySem.Str.ofString "AdaError") 384), Option.some (PySem.Value.builtin "Exception.__new__"), Option.some (PySem.Value.bool Bool.true)] }) ::
  (nat_lit 152, { cls := PySem.Value.type "getset_descriptor", data := PySem.Data.fields #[PySem.Value.str (PySem.Str.ofString "__weakref__") 398, PySem.Value.ref 151, PySem.Value.builtin "ExceptionGroup.__weakref__", PySem.Value.none] }) ::
  (nat_lit 155, { cls := PySem.Value.type "tuple", data := PySem.Data.seq #[PySem.Value.ref 151] }) ::
  (nat_lit 162, { cls := PySem.Value.type "tuple", data := PySem.Data.seq #[] }) ::
  (nat_lit 164, { cls := PySem.Value.type "tuple", data := PySem.Data.seq #[PySem.Value.str (PySem.Str.ofString "self") 420, PySem.Value.str (PySem.Str.ofString "line") 421, PySem.Value.str (PySem.Str.ofString "text") 422] }) ::
  (nat_lit 165, { cls := PySem.Value.type "tuple", data := PySem.Data.seq #[] }) ::
  (nat_lit 167, { cls := PySem.Value.type "code", data := PySem.Data.fields #[PySem.Value.str (PySem.Str.ofString "__init__") 417, PySem.Value.str (PySem.Str.ofString "CheckFault.__init__") 418, PySem.Value.str (PySem.Str.ofString "/claim/cut.py") 419, PySem.Value.int 104 0, PySem.Value.int 3 0, PySem.Value.int 0 0, PySem.Value.int 0 0, PySem.Value.int 3 0, PySem.Value.ref 162, PySem.Value.bool Bool.true, PySem.Value.int 181 0, PySem.Value.ref 163, PySem.Value.none, PySem.Value.ref 164, PySem.Value.ref 165, PySem.Value.ref 166, PySem.Value.int 423 0, PySem.Value.int 104 0, PySem.Value.str (PySem.Str.ofString "/claim/cut.py") 424] }) ::
  (nat_lit 168, { cls := PySem.Value.type "function", data := PySem.Data.func { name := PySem.Str.ofString "__init__", qualname := PySem.Str.ofString "CheckFault.__init__", params := a168, body := PySem.FuncBody.stmts b168, scope := s168, globals := 3, closure := [], defaults := PySem.Value.none, kwdefaults := PySem.Value.none, pyModule := PySem.Value.str (PySem.Str.ofString "adacore.errors") 374, code := PySem.Value.ref 167 } }) ::
  (nat_lit 169, { cls := PySem.Value.type "tuple", data := PySem.Data.seq #[PySem.Value.str (PySem.Str.ofString "line") 426] }) ::
  (nat_lit 170, { cls := PySem.Value.type "dict", data := PySem.Data.dict #[{ hash := PySem.PyData.keyHash P (PySem.Str.ofString "__module__"), key := PySem.Value.str (PySem.Str.ofString "__module__") 412, val := PySem.Value.str (PySem.Str.ofString "adacore.errors") 374 }, { hash := PySem.PyData.keyHash P (PySem.Str.ofString "__firstlineno__"), key := PySem.Value.str (PySem.Str.ofString "__firstlineno__") 416, val := PySem.Value.int 102 415 }, { hash := PySem.PyData.keyHash P (PySem.Str.ofString "__init__"), key := PySem.Value.str (PySem.Str.ofString "__init__") 425, val := PySem.Value.ref 168 }, { hash := PySem.PyData.keyHash P (PySem.Str.ofString "__static_attributes__"), key := PySem.Value.str (PySem.Str.ofString "__static_attributes__") 427, val := PySem.Value.ref 169 }, { hash := PySem.PyData.keyHash P (PySem.Str.ofString "__doc__"), key := PySem.Value.str (PySem.Str.ofString "__doc__") 428, val := PySem.Value.none }] 2 }) ::
  (nat_lit 171, { cls := PySem.Value.type "type", data := PySem.Data.cls { name := PySem.Str.ofString "CheckFault", bases := [PySem.Value.ref 151], mro := [PySem.Value.ref 171, PySem.Value.ref 151, PySem.Value.type "Exception", PySem.Value.type "BaseException", PySem.Value.type "object"], ns := 170, qualname := PySem.Str.ofString "CheckFault" }, slots := #[Option.some (PySem.Value.ref 155), Option.none, Option.some (PySem.Value.str (PySem.Str.ofString "CheckFault") 405), Option.some (PySem.Value.str (PySem.Str.ofString "CheckFault") 413), Option.some (PySem.Value.builtin "Exception.__new__"), Option.some (PySem.Value.bool Bool.true)] }) ::
  (nat_lit 174, { cls := PySem.Value.type "tuple", data := PySem.Data.seq #[] }) ::
  (nat_lit 176, { cls := PySem.Value.type "tuple", data := PySem.Data.seq #[PySem.Value.str (PySem.Str.ofString "subtype") 438, PySem.Value.str (PySem.Str.ofString "turns") 439, PySem.Value.str (PySem.Str.ofString "behind") 440] }) ::
  (nat_lit 177, { cls := PySem.Value.type "tuple", data := PySem.Data.seq #[] }) ::
  (nat_lit 179, { cls := PySem.Value.type "code", data := PySem.Data.fields #[PySem.Value.str (PySem.Str.ofString "full_subtype") 435, PySem.Value.str (PySem.Str.ofString "full_subtype") 436, PySem.Value.str (PySem.Str.ofString "/claim/cut.py") 437, PySem.Value.int 109 0, PySem.Value.int 1 0, PySem.Value.int 0 0, PySem.Value.int 0 0, PySem.Value.int 3 0, PySem.Value.ref 174, PySem.Value.bool Bool.true, PySem.Value.int 181 0, PySem.Value.ref 175, PySem.Value.none, PySem.Value.ref 176, PySem.Value.ref 177, PySem.Value.ref 178, PySem.Value.int 441 0, PySem.Value.int 109 0, PySem.Value.str (PySem.Str.ofString "/claim/cut.py") 442] }) ::
  (nat_lit 180, { cls := PySem.Value.type "function", data := PySem.Data.func { name := PySem.Str.ofString "full_subtype", qualname := PySem.Str.ofString "full_subtype", params := a180, body := PySem.FuncBody.stmts b180, scope := s180, globals := 3, closure := [], defaults := PySem.Value.none, kwdefaults := PySem.Value.none, pyModule := PySem.Value.str (PySem.Str.ofString "adacore.fulltypes") 431, code := PySem.Value.ref 179 } }) ::
  (nat_lit 181, { cls := PySem.Value.type "tuple", data := PySem.Data.seq #[] }) ::
  (nat_lit 183, { cls := PySem.Value.type "tuple", data := PySem.Data.seq #[PySem.Value.str (PySem.Str.ofString "t") 449, PySem.Value.str (PySem.Str.ofString "numbers") 450] }) ::
  (nat_lit 184, { cls := PySem.Value.type "tuple", data := PySem.Data.seq #[] }) ::
  (nat_lit 186, { cls := PySem.Value.type "code", data := PySem.Data.fields #[PySem.Value.str (PySem.Str.ofString "shown_line") 446, PySem.Value.str (PySem.Str.ofString "shown_line") 447, PySem.Value.str (PySem.Str.ofString "/claim/cut.py") 448, PySem.Value.int 119 0, PySem.Value.int 1 0, PySem.Value.int 0 0, PySem.Value.int 0 0, PySem.Value.int 3 0, PySem.Value.ref 181, PySem.Value.bool Bool.true, PySem.Value.int 181 0, PySem.Value.ref 182, PySem.Value.none, PySem.Value.ref 183, PySem.Value.ref 184, PySem.Value.ref 185, PySem.Value.int 451 0, PySem.Value.int 119 0, PySem.Value.str (PySem.Str.ofString "/claim/cut.py") 452] }) ::
  (nat_lit 187, { cls := PySem.Value.type "function", data := PySem.Data.func { name := PySem.Str.ofString "shown_line", qualname := PySem.Str.ofString "shown_line", params := a187, body := PySem.FuncBody.stmts b187, scope := s187, globals := 3, closure := [], defaults := PySem.Value.none, kwdefaults := PySem.Value.none, pyModule := PySem.Value.str (PySem.Str.ofString "adacore.overparts") 444, code := PySem.Value.ref 186 } }) ::
  (nat_lit 188, { cls := PySem.Value.type "tuple", data := PySem.Data.seq #[] }) ::
  (nat_lit 190, { cls := PySem.Value.type "tuple", data := PySem.Data.seq #[PySem.Value.str (PySem.Str.ofString "subtype") 457, PySem.Value.str (PySem.Str.ofString "full") 458] }) ::
  (nat_lit 191, { cls := PySem.Value.type "tuple", data := PySem.Data.seq #[] }) ::
  (nat_lit 193, { cls := PySem.Value.type "code", data := PySem.Data.fields #[PySem.Value.str (PySem.Str.ofString "told_constraint") 454, PySem.Value.str (PySem.Str.ofString "told_constraint") 455, PySem.Value.str (PySem.Str.ofString "/claim/cut.py") 456, PySem.Value.int 125 0, PySem.Value.int 1 0, PySem.Value.int 0 0, PySem.Value.int 0 0, PySem.Value.int 3 0, PySem.Value.ref 188, PySem.Value.bool Bool.true, PySem.Value.int 181 0, PySem.Value.ref 189, PySem.Value.none, PySem.Value.ref 190, PySem.Value.ref 191, PySem.Value.ref 192, PySem.Value.int 459 0, PySem.Value.int 125 0, PySem.Value.str (PySem.Str.ofString "/claim/cut.py") 460] }) ::
  (nat_lit 194, { cls := PySem.Value.type "function", data := PySem.Data.func { name := PySem.Str.ofString "told_constraint", qualname := PySem.Str.ofString "told_constraint", params := a194, body := PySem.FuncBody.stmts b194, scope := s194, globals := 3, closure := [], defaults := PySem.Value.none, kwdefaults := PySem.Value.none, pyModule := PySem.Value.str (PySem.Str.ofString "adacore.overparts") 444, code := PySem.Value.ref 193 } }) ::
  (nat_lit 195, { cls := PySem.Value.type "tuple", data := PySem.Data.seq #[] }) ::
  (nat_lit 197, { cls := PySem.Value.type "tuple", data := PySem.Data.seq #[PySem.Value.str (PySem.Str.ofString "one") 465, PySem.Value.str (PySem.Str.ofString "other") 466, PySem.Value.str (PySem.Str.ofString "left") 467, PySem.Value.str (PySem.Str.ofString "right") 468] }) ::
  (nat_lit 198, { cls := PySem.Value.type "tuple", data := PySem.Data.seq #[] }) ::
  (nat_lit 200, { cls := PySem.Value.type "code", data := PySem.Data.fields #[PySem.Value.str (PySem.Str.ofString "is_told_alike") 462, PySem.Value.str (PySem.Str.ofString "is_told_alike") 463, PySem.Value.str (PySem.Str.ofString "/claim/cut.py") 464, PySem.Value.int 130 0, PySem.Value.int 2 0, PySem.Value.int 0 0, PySem.Value.int 0 0, PySem.Value.int 3 0, PySem.Value.ref 195, PySem.Value.bool Bool.true, PySem.Value.int 181 0, PySem.Value.ref 196, PySem.Value.none, PySem.Value.ref 197, PySem.Value.ref 198, PySem.Value.ref 199, PySem.Value.int 469 0, PySem.Value.int 130 0, PySem.Value.str (PySem.Str.ofString "/claim/cut.py") 470] }) ::
  (nat_lit 201, { cls := PySem.Value.type "function", data := PySem.Data.func { name := PySem.Str.ofString "is_told_alike", qualname := PySem.Str.ofString "is_told_alike", params := a201, body := PySem.FuncBody.stmts b201, scope := s201, globals := 3, closure := [], defaults := PySem.Value.none, kwdefaults := PySem.Value.none, pyModule := PySem.Value.str (PySem.Str.ofString "adacore.overparts") 444, code := PySem.Value.ref 200 } }) ::
  (nat_lit 202, { cls := PySem.Value.type "tuple", data := PySem.Data.seq #[] }) ::
  (nat_lit 205, { cls := PySem.Value.type "code", data := PySem.Data.fields #[PySem.Value.str (PySem.Str.ofString "rows_convertible") 472, PySem.Value.str (PySem.Str.ofString "rows_convertible") 473, PySem.Value.str (PySem.Str.ofString "/claim/cut.py") 474, PySem.Value.int 137 0, PySem.Value.int 2 0, PySem.Value.int 0 0, PySem.Value.int 0 0, PySem.Value.int 3 0, PySem.Value.ref 202, PySem.Value.bool Bool.true, PySem.Value.int 181 0, PySem.Value.ref 203, PySem.Value.none, PySem.Value.none, PySem.Value.none, PySem.Value.ref 204, PySem.Value.int 475 0, PySem.Value.int 137 0, PySem.Value.str (PySem.Str.ofString "/claim/cut.py") 476] }) ::
  (nat_lit 206, { cls := PySem.Value.type "function", data := PySem.Data.func { name := PySem.Str.ofString "rows_convertible", qualname := PySem.Str.ofString "rows_convertible", params := a206, body := PySem.FuncBody.stmts b206, scope := s206, globals := 3, closure := [], defaults := PySem.Value.none, kwdefaults := PySem.Value.none, pyModule := PySem.Value.str (PySem.Str.ofString "adacore.overparts") 444, code := PySem.Value.ref 205 } }) ::
  (nat_lit 207, { cls := PySem.Value.type "tuple", data := PySem.Data.seq #[] }) ::
  (nat_lit 210, { cls := PySem.Value.type "code", data := PySem.Data.fields #[PySem.Value.str (PySem.Str.ofString "is_convertible") 478, PySem.Value.str (PySem.Str.ofString "is_convertible") 479, PySem.Value.str (PySem.Str.ofString "/claim/cut.py") 480, PySem.Value.int 144 0, PySem.Value.int 2 0, PySem.Value.int 0 0, PySem.Value.int 0 0, PySem.Value.int 3 0, PySem.Value.ref 207, PySem.Value.bool Bool.true, PySem.Value.int 181 0, PySem.Value.ref 208, PySem.Value.none, PySem.Value.none, PySem.Value.none, PySem.Value.ref 209, PySem.Value.int 481 0, PySem.Value.int 144 0, PySem.Value.str (PySem.Str.ofString "/claim/cut.py") 482] }) ::
  (nat_lit 211, { cls := PySem.Value.type "function", data := PySem.Data.func { name := PySem.Str.ofString "is_convertible", qualname := PySem.Str.ofString "is_convertible", params := a211, body := PySem.FuncBody.stmts b211, scope := s211, globals := 3, closure := [], defaults := PySem.Value.none, kwdefaults := PySem.Value.none, pyModule := PySem.Value.str (PySem.Str.ofString "adacore.overparts") 444, code := PySem.Value.ref 210 } }) ::
  (nat_lit 212, { cls := PySem.Value.type "tuple", data := PySem.Data.seq #[PySem.Value.str (PySem.Str.ofString "range") 486, PySem.Value.int 0 487, PySem.Value.int 9 488] }) ::
  (nat_lit 213, { cls := PySem.Value.type "tuple", data := PySem.Data.seq #[PySem.Value.str (PySem.Str.ofString "range") 489, PySem.Value.int 0 490, PySem.Value.int 9 491] }) ::
  (nat_lit 214, { cls := PySem.Value.type "tuple", data := PySem.Data.seq #[PySem.Value.str (PySem.Str.ofString "range") 492, PySem.Value.int (-1) 494, PySem.Value.int 5 495] }) ::
  (nat_lit 215, { cls := PySem.Value.type "tuple", data := PySem.Data.seq #[PySem.Value.str (PySem.Str.ofString "range") 496, PySem.Value.int 0 497, PySem.Value.int 8 498] }) ::
  (nat_lit 216, { cls := PySem.Value.type "tuple", data := PySem.Data.seq #[PySem.Value.str (PySem.Str.ofString "named") 499, PySem.Value.int 0 500, PySem.Value.str (PySem.Str.ofString "s") 501] }) ::
  (nat_lit 217, { cls := PySem.Value.type "tuple", data := PySem.Data.seq #[PySem.Value.str (PySem.Str.ofString "named") 502, PySem.Value.int 2 503, PySem.Value.str (PySem.Str.ofString "s") 504] }) ::
  (nat_lit 218, { cls := PySem.Value.type "tuple", data := PySem.Data.seq #[PySem.Value.str (PySem.Str.ofString "named") 505, PySem.Value.int 0 506, PySem.Value.str (PySem.Str.ofString "r") 507] }) ::
  (nat_lit 219, { cls := PySem.Value.type "tuple", data := PySem.Data.seq #[PySem.Value.none, PySem.Value.ref 212, PySem.Value.ref 213, PySem.Value.ref 214, PySem.Value.ref 215, PySem.Value.ref 216, PySem.Value.ref 217, PySem.Value.ref 218] }) ::
  (nat_lit 220, { cls := PySem.Value.type "tuple", data := PySem.Data.seq #[] }) ::
  (nat_lit 222, { cls := PySem.Value.type "tuple", data := PySem.Data.seq #[PySem.Value.str (PySem.Str.ofString "drum") 512, PySem.Value.str (PySem.Str.ofString "many") 513] }) ::
  (nat_lit 223, { cls := PySem.Value.type "tuple", data := PySem.Data.seq #[] }) ::
  (nat_lit 225, { cls := PySem.Value.type "code", data := PySem.Data.fields #[PySem.Value.str (PySem.Str.ofString "_law_rap") 509, PySem.Value.str (PySem.Str.ofString "_law_rap") 510, PySem.Value.str (PySem.Str.ofString "/claim/cut.py") 511, PySem.Value.int 156 0, PySem.Value.int 2 0, PySem.Value.int 0 0, PySem.Value.int 0 0, PySem.Value.int 3 0, PySem.Value.ref 220, PySem.Value.bool Bool.true, PySem.Value.int 181 0, PySem.Value.ref 221, PySem.Value.none, PySem.Value.ref 222, PySem.Value.ref 223, PySem.Value.ref 224, PySem.Value.int 514 0, PySem.Value.int 156 0, PySem.Value.str (PySem.Str.ofString "/claim/cut.py") 515] }) ::
  (nat_lit 226, { cls := PySem.Value.type "function", data := PySem.Data.func { name := PySem.Str.ofString "_law_rap", qualname := PySem.Str.ofString "_law_rap", params := a226, body := PySem.FuncBody.stmts b226, scope := s226, globals := 3, closure := [], defaults := PySem.Value.none, kwdefaults := PySem.Value.none, pyModule := PySem.Value.str (PySem.Str.ofString "law_rg0005_01") 484, code := PySem.Value.ref 225 } }) ::
  (nat_lit 227, { cls := PySem.Value.type "tuple", data := PySem.Data.seq #[] }) ::
  (nat_lit 230, { cls := PySem.Value.type "code", data := PySem.Data.fields #[PySem.Value.str (PySem.Str.ofString "_law_row") 517, PySem.Value.str (PySem.Str.ofString "_law_row") 518, PySem.Value.str (PySem.Str.ofString "/claim/cut.py") 519, PySem.Value.int 161 0, PySem.Value.int 4 0, PySem.Value.int 0 0, PySem.Value.int 0 0, PySem.Value.int 3 0, PySem.Value.ref 227, PySem.Value.bool Bool.true, PySem.Value.int 181 0, PySem.Value.ref 228, PySem.Value.none, PySem.Value.none, PySem.Value.none, PySem.Value.ref 229, PySem.Value.int 520 0, PySem.Value.int 161 0, PySem.Value.str (PySem.Str.ofString "/claim/cut.py") 521] }) ::
  (nat_lit 231, { cls := PySem.Value.type "function", data := PySem.Data.func { name := PySem.Str.ofString "_law_row", qualname := PySem.Str.ofString "_law_row", params := a231, body := PySem.FuncBody.stmts b231, scope := s231, globals := 3, closure := [], defaults := PySem.Value.none, kwdefaults := PySem.Value.none, pyModule := PySem.Value.str (PySem.Str.ofString "law_rg0005_01") 484, code := PySem.Value.ref 230 } }) ::
  (nat_lit 232, { cls := PySem.Value.type "tuple", data := PySem.Data.seq #[] }) ::
  (nat_lit 235, { cls := PySem.Value.type "code", data := PySem.Data.fields #[PySem.Value.str (PySem.Str.ofString "law") 523, PySem.Value.str (PySem.Str.ofString "law") 524, PySem.Value.str (PySem.Str.ofString "/claim/cut.py") 525, PySem.Value.int 168 0, PySem.Value.int 1 0, PySem.Value.int 0 0, PySem.Value.int 0 0, PySem.Value.int 3 0, PySem.Value.ref 232, PySem.Value.bool Bool.true, PySem.Value.int 181 0, PySem.Value.ref 233, PySem.Value.none, PySem.Value.none, PySem.Value.none, PySem.Value.ref 234, PySem.Value.int 526 0, PySem.Value.int 168 0, PySem.Value.str (PySem.Str.ofString "/claim/cut.py") 527] }) ::
  (nat_lit 236, { cls := PySem.Value.type "function", data := PySem.Data.func { name := PySem.Str.ofString "law", qualname := PySem.Str.ofString "law", params := a236, body := PySem.FuncBody.stmts b236, scope := s236, globals := 3, closure := [], defaults := PySem.Value.none, kwdefaults := PySem.Value.none, pyModule := PySem.Value.str (PySem.Str.ofString "law_rg0005_01") 484, code := PySem.Value.ref 235 } }) :: []
noncomputable def VV : Program := by
  refine (?f : ∀ (s1 : Stmt) (_ : stAt 1 = some s1) (s2 : Stmt) (_ : stAt 2 = some s2) (s3 : Stmt) (_ : stAt 3 = some s3) (s4 : Stmt) (_ : stAt 4 = some s4) (s5 : Stmt) (_ : stAt 5 = some s5) (s6 : Stmt) (_ : stAt 6 = some s6) (s7 : Stmt) (_ : stAt 7 = some s7) (s8 : Stmt) (_ : stAt 8 = some s8) (s9 : Stmt) (_ : stAt 9 = some s9) (s10 : Stmt) (_ : stAt 10 = some s10) (s11 : Stmt) (_ : stAt 11 = some s11) (s12 : Stmt) (_ : stAt 12 = some s12) (s13 : Stmt) (_ : stAt 13 = some s13) (s15 : Stmt) (_ : stAt 15 = some s15) (s17 : Stmt) (_ : stAt 17 = some s17) (s18 : Stmt) (_ : stAt 18 = some s18) (s20 : Stmt) (_ : stAt 20 = some s20) (s21 : Stmt) (_ : stAt 21 = some s21) (s23 : Stmt) (_ : stAt 23 = some s23) (s24 : Stmt) (_ : stAt 24 = some s24) (s25 : Stmt) (_ : stAt 25 = some s25) (s26 : Stmt) (_ : stAt 26 = some s26) (s27 : Stmt) (_ : stAt 27 = some s27) (s29 : Stmt) (_ : stAt 29 = some s29) (s30 : Stmt) (_ : stAt 30 = some s30) (s31 : Stmt) (_ : stAt 31 = some s31) (s32 : Stmt) (_ : stAt 32 = some s32), Program) _ rfl _ rfl _ rfl _ rfl _ rfl _ rfl _ rfl _ rfl _ rfl _ rfl _ rfl _ rfl _ rfl _ rfl _ rfl _ rfl _ rfl _ rfl _ rfl _ rfl _ rfl _ rfl _ rfl _ rfl _ rfl _ rfl _ rfl
  exact fun s1 _ s2 _ s3 _ s4 _ s5 _ s6 _ s7 _ s8 _ s9 _ s10 _ s11 _ s12 _ s13 _ s15 _ s17 _ s18 _ s20 _ s21 _ s23 _ s24 _ s25 _ s26 _ s27 _ s29 _ s30 _ s31 _ s32 _ => { PySem.Challenge.rw_rg0005_01.row.toRowW.prog with main := { PySem.Challenge.rw_rg0005_01.row.toRowW.prog.main with body := [s1, s2, s3, s4, s5, s6, s7, s8, s9, s10, s11, s12, s13, s15, s17, s18, s20, s21, s23, s24, s25, s26, s27, s29, s30, s31, s32] } }
noncomputable def dLaw : DefRec := by
  refine (?f : ∀ (n : Str) (a : Arguments) (b : List Stmt) (s : Scope) (q : Str) (p : Pos) (_ : stAt 32 = some (.FunctionDef n a b [] none [] s none q p)), DefRec) _ _ _ _ _ _ rfl
  exact fun n a b s _ p _ => { name := n, params := a, body := b, scope := s, pos := p }
noncomputable def aas : List Addr := [nat_lit 2, nat_lit 3, nat_lit 15, nat_lit 23, nat_lit 25, nat_lit 26, nat_lit 28, nat_lit 29, nat_lit 30, nat_lit 31, nat_lit 32, nat_lit 33, nat_lit 34, nat_lit 44, nat_lit 46, nat_lit 47, nat_lit 49, nat_lit 50, nat_lit 51, nat_lit 52, nat_lit 53, nat_lit 54, nat_lit 55, nat_lit 58, nat_lit 60, nat_lit 61, nat_lit 63, nat_lit 64, nat_lit 65, nat_lit 67, nat_lit 68, nat_lit 70, nat_lit 71, nat_lit 72, nat_lit 74, nat_lit 75, nat_lit 77, nat_lit 78, nat_lit 79, nat_lit 81, nat_lit 82, nat_lit 84, nat_lit 85, nat_lit 86, nat_lit 88, nat_lit 89, nat_lit 91, nat_lit 92, nat_lit 93, nat_lit 95, nat_lit 96, nat_lit 98, nat_lit 99, nat_lit 100, nat_lit 102, nat_lit 103, nat_lit 105, nat_lit 106, nat_lit 107, nat_lit 109, nat_lit 110, nat_lit 112, nat_lit 113, nat_lit 114, nat_lit 116, nat_lit 117, nat_lit 119, nat_lit 120, nat_lit 121, nat_lit 123, nat_lit 124, nat_lit 126, nat_lit 127, nat_lit 128, nat_lit 130, nat_lit 131, nat_lit 133, nat_lit 134, nat_lit 135, nat_lit 142, nat_lit 144, nat_lit 145, nat_lit 147, nat_lit 148, nat_lit 149, nat_lit 150, nat_lit 151, nat_lit 152, nat_lit 155, nat_lit 162, nat_lit 164, nat_lit 165, nat_lit 167, nat_lit 168, nat_lit 169, nat_lit 170, nat_lit 171, nat_lit 174, nat_lit 176, nat_lit 177, nat_lit 179, nat_lit 180, nat_lit 181, nat_lit 183, nat_lit 184, nat_lit 186, nat_lit 187, nat_lit 188, nat_lit 190, nat_lit 191, nat_lit 193, nat_lit 194, nat_lit 195, nat_lit 197, nat_lit 198, nat_lit 200, nat_lit 201, nat_lit 202, nat_lit 205, nat_lit 206, nat_lit 207, nat_lit 210, nat_lit 211, nat_lit 212, nat_lit 213, nat_lit 214, nat_lit 215, nat_lit 216, nat_lit 217, nat_lit 218, nat_lit 219, nat_lit 220, nat_lit 222, nat_lit 223, nat_lit 225, nat_lit 226, nat_lit 227, nat_lit 230, nat_lit 231, nat_lit 232, nat_lit 235, nat_lit 236]
def Con (prog : Program) (w : World) (K : Frag) (p : Program) (loose : List Str) (mean : ExcName → Option Value) (mg mb : Str → Option Value) (dN uN : Nat) (f : Addr) (vs : List Value) (news : List (Addr × Obj)) (R : Value → List (Addr × Obj) → Prop) : Prop :=
  ∀ (dp un : Nat) (gd : Option (List Code)) (cn : Str) (cs : Scope) (a : Addr) (ccd : Value) (cl : List (Str × Addr)) (outer : List Env) (A₀ : Around) (base h₀ : Heap) (L : Addr) (m : Str → Option Value) (s : Shared) (Q E : Value → Shared → Prop),
    Below A₀ base outer h₀ → Fr h₀ L s.heap m → K.In h₀ → News h₀ L s.heap news → Top p loose mean mg mb h₀ → cs.kind = .function → dp + dN < recursionLimit → un + uN < cLine →
    (∀ r news' h' tk', R r news' → Fr h₀ L h' m → News h₀ L h' news' → Q r { s with heap := h', toks := tk' }) →
    wpAny (model prog w) (ktrTop dp un gd cn cs L a ccd cl outer) (call (.ref f) vs) Q E s
abbrev ent (w : World) (nm : String) (t : Tok) (v : Value) : DictEntry := ⟨PyData.keyHash w.params (Str.ofString nm), .str (Str.ofString nm) t, v⟩
inductive TyE (w : World) (k : Str) (num : Int) (par low high ix comp : Value) (ops : Addr) : List DictEntry → Prop
  | mk (t0 t1 t2 t3 t4 t5 t6 t7 t8 t9 t10 t11 t12 t13 t14 t15 t16 t17 t18 t19 t20 t21 t22 t23 tk tm tn tnm : Tok) (nm : Str) (lits small disc comps : Addr) (modu : Int) (cons : Bool) :
    TyE w k num par low high ix comp ops [ent w "kind" t0 (.str k tk), ent w "name" t1 (.str nm tnm), ent w "number" t2 (.int num tn), ent w "parent" t3 par, ent w "low" t4 low, ent w "high" t5 high,
      ent w "literals" t6 (.ref lits), ent w "modulus" t7 (.int modu tm), ent w "small" t8 (.ref small), ent w "index" t9 ix, ent w "component" t10 comp, ent w "is_constrained" t11 (.bool cons),
      ent w "discriminants" t12 (.ref disc), ent w "components" t13 (.ref comps), ent w "variant" t14 .none, ent w "designated" t15 .none, ent w "is_tagged" t16 (.bool false), ent w "wide" t17 .none,
      ent w "is_limited" t18 (.bool false), ent w "is_private" t19 (.bool false), ent w "is_abstract" t20 (.bool false), ent w "is_constant" t21 (.bool false), ent w "is_late" t22 (.bool false), ent w "operations" t23 (.ref ops)]
theorem all_ne {l : List (Addr × Obj)} {d : Addr} (h : ∀ p ∈ l, p.1 < d) : ∀ p ∈ l, p.1 ≠ d := fun p hp => Nat.ne_of_lt (h p hp)
structure NewTy (w : World) (k : Str) (num : Int) (par low high ix comp : Value) (news : List (Addr × Obj)) (r : Value) (news' : List (Addr × Obj)) : Prop where
  out : ∃ (x dx ops : Addr) (es : List DictEntry) (oo : Obj), r = .ref x ∧ news' = (ops, oo) :: (x, instObj 32 dx) :: (dx, dictOf es 24) :: news ∧ TyE w k num par low high ix comp ops es ∧
    Obj.IsDictOf (PySem.strKind PySem.Challenge.rw_rg0005_01.row.prog w) oo [] ∧ (∀ p ∈ news, p.1 < dx) ∧ dx < x ∧ x < ops
theorem newTy_of {w : World} {k : Str} {num : Int} {par low high ix comp : Value} {news : List (Addr × Obj)} {x dx ops : Addr} {es : List DictEntry} {oo : Obj} (hE : TyE w k num par low high ix comp ops es)
    (ho : Obj.IsDictOf (PySem.strKind PySem.Challenge.rw_rg0005_01.row.prog w) oo []) (h1 : ∀ p ∈ news, p.1 < dx) (h2 : dx < x) (h3 : x < ops) :
    NewTy w k num par low high ix comp news (.ref x) ((ops, oo) :: (x, instObj 32 dx) :: (dx, dictOf es 24) :: news) := ⟨x, dx, ops, es, oo, rfl, rfl, hE, ho, h1, h2, h3⟩
theorem newTy_out {w : World} {k : Str} {num : Int} {par low high ix comp : Value} {news lg : List (Addr × Obj)} {h₀ h : Heap} {L : Addr} {x dx ops : Addr} {es : List DictEntry} {oo : Obj} {C : Prop} (N : News h₀ L h lg)
    (hx : (x, instObj 32 dx) ∈ lg) (hd : (dx, dictOf es 24) ∈ lg) (hE : TyE w k num par low high ix comp ops es) (hm : (ops, oo) ∈ lg)
    (ho : Obj.IsDictOf (PySem.strKind PySem.Challenge.rw_rg0005_01.row.prog w) oo []) (hn : ∀ p ∈ news, p ∈ lg) (h1 : ∀ p ∈ news, p.1 < dx) (h2 : dx < x) (h3 : x < ops)
    (k : ∀ news', NewTy w k num par low high ix comp news (.ref x) news' → News h₀ L h news' → C) : C :=
  k _ (newTy_of hE ho h1 h2 h3) fun p hp => by
    rcases List.mem_cons.mp hp with rfl | hp
    · exact N _ hm
    rcases List.mem_cons.mp hp with rfl | hp
    · exact N _ hx
    rcases List.mem_cons.mp hp with rfl | hp
    · exact N _ hd
    exact N _ (hn _ hp)
theorem tail_lt {e : Addr × Obj} {r : List (Addr × Obj)} {d : Addr} (h : ∀ p ∈ e :: r, p.1 < d) : ∀ p ∈ r, p.1 < d := fun p hp => h p (.tail _ hp)
theorem Con.use {prog : Program} {w : World} {K : Frag} {p : Program} {loose : List Str} {mean : ExcName → Option Value} {mg mb : Str → Option Value} {dN uN : Nat} {f : Addr} {vs : List Value} {news : List (Addr × Obj)} {R : Value → List (Addr × Obj) → Prop}
    {dp un : Nat} {gd : Option (List Code)} {cn : Str} {cs : Scope} {a : Addr} {ccd : Value} {cl : List (Str × Addr)} {outer : List Env} {A₀ : Around} {base h₀ : Heap} {L : Addr} {m : Str → Option Value} {s : Shared} {Q E : Value → Shared → Prop}
    (C : Con prog w K p loose mean mg mb dN uN f vs news R) (B : Below A₀ base outer h₀) (F : Fr h₀ L s.heap m) (X : K.In h₀) (N : News h₀ L s.heap news) (T : Top p loose mean mg mb h₀) (hk : cs.kind = .function)
    (hd : dp + dN < recursionLimit) (hu : un + uN < cLine) (ret : ∀ r news' h' tk', R r news' → Fr h₀ L h' m → News h₀ L h' news' → Q r { s with heap := h', toks := tk' }) :
    wpAny (model prog w) (ktrTop dp un gd cn cs L a ccd cl outer) (call (.ref f) vs) Q E s := C dp un gd cn cs a ccd cl outer A₀ base h₀ L m s Q E B F X N T hk hd hu ret
structure NewArr (w : World) (num : Int) (comp : Value) (marks : List Value) (news : List (Addr × Obj)) (r : Value) (news' : List (Addr × Obj)) : Prop where
  out : ∃ (x dx ops li : Addr) (n : Nat) (es : List DictEntry) (oo : Obj), r = .ref x ∧ news' = (li, W.listOf marks.toArray n) :: (ops, oo) :: (x, instObj 32 dx) :: (dx, dictOf es 24) :: news ∧
    TyE w (Str.ofString "array") num .none .none .none (.ref li) comp ops es ∧ Obj.IsDictOf (PySem.strKind PySem.Challenge.rw_rg0005_01.row.prog w) oo [] ∧ (∀ p ∈ news, p.1 < dx) ∧ dx < x ∧ x < ops ∧ ops < li
theorem newArr_out {w : World} {num : Int} {comp : Value} {marks : List Value} {news lg : List (Addr × Obj)} {h₀ h : Heap} {L : Addr} {x dx ops li : Addr} {n : Nat} {es : List DictEntry} {oo : Obj} {C : Prop} (N : News h₀ L h lg)
    (hx : (x, instObj 32 dx) ∈ lg) (hd : (dx, dictOf es 24) ∈ lg) (hE : TyE w (Str.ofString "array") num .none .none .none (.ref li) comp ops es) (hm : (ops, oo) ∈ lg) (hl : (li, W.listOf marks.toArray n) ∈ lg)
    (ho : Obj.IsDictOf (PySem.strKind PySem.Challenge.rw_rg0005_01.row.prog w) oo []) (hn : ∀ p ∈ news, p ∈ lg) (h1 : ∀ p ∈ news, p.1 < dx) (h2 : dx < x) (h3 : x < ops) (h4 : ops < li)
    (k : ∀ news', NewArr w num comp marks news (.ref x) news' → News h₀ L h news' → C) : C :=
  k _ ⟨⟨x, dx, ops, li, n, es, oo, rfl, rfl, hE, ho, h1, h2, h3, h4⟩⟩ fun p hp => by
    rcases List.mem_cons.mp hp with rfl | hp
    · exact N _ hl
    rcases List.mem_cons.mp hp with rfl | hp
    · exact N _ hm
    rcases List.mem_cons.mp hp with rfl | hp
    · exact N _ hx
    rcases List.mem_cons.mp hp with rfl | hp
    · exact N _ hd
    exact N _ (hn _ hp)
theorem con_upd {prog : Program} {w : World} {K : Frag} {p : Program} {loose : List Str} {mean : ExcName → Option Value} {mg mb : Str → Option Value} {dN uN : Nat} {f : Addr} {vs : List Value} {news : List (Addr × Obj)} {d : Addr} {o : Obj} {g : Obj → List (Addr × Obj)} {P : Value → Obj → Prop}
    (U : UpdF d o news g) (H : ∀ rest, (∀ p ∈ rest, p.1 ≠ d) → (∀ q ∈ news, q.1 ≠ d → q ∈ rest) → Con prog w K p loose mean mg mb dN uN f vs ((d, o) :: rest) (fun r news' => ∃ o', P r o' ∧ news' = (d, o') :: rest)) :
    Con prog w K p loose mean mg mb dN uN f vs news (fun r news' => ∃ o', P r o' ∧ news' = g o') := by
  obtain ⟨pre, post, rfl, hg, h1, h2⟩ := U.split
  intro dp un gd cn cs a ccd cl outer A₀ base h₀ L m s Q E B F X N T hk hd hu ret
  refine H (pre ++ post) (fun p hp => (List.mem_append.mp hp).elim (h1 p) (h2 p)) (fun q hq hne => ?_) dp un gd cn cs a ccd cl outer A₀ base h₀ L m s Q E B F X ?_ T hk hd hu fun r nw h' tk' hR F' N' => ?_
  · rcases List.mem_append.mp hq with h | h
    · exact List.mem_append_left _ h
    · rcases List.mem_cons.mp h with e | h
      · exact absurd (by rw [e]) hne
      · exact List.mem_append_right _ h
  · intro q hq
    rcases List.mem_cons.mp hq with rfl | hq
    · exact N _ (List.mem_append_right _ (.head _))
    · rcases List.mem_append.mp hq with h | h
      · exact N _ (List.mem_append_left _ h)
      · exact N _ (List.mem_append_right _ (.tail _ h))
  · obtain ⟨o', hP, rfl⟩ := hR
    refine ret r (g o') h' tk' ⟨o', hP, rfl⟩ F' ?_
    rw [hg]
    intro q hq
    rcases List.mem_append.mp hq with h | h
    · exact N' _ (.tail _ (List.mem_append_left _ h))
    · rcases List.mem_cons.mp h with rfl | h
      · exact N' _ (.head _)
      · exact N' _ (.tail _ (List.mem_append_right _ h))
inductive SubE (w : World) (ty con : Value) : List DictEntry → Prop
  | mk (t0 t1 : Tok) : SubE w ty con [ent w "type" t0 ty, ent w "constraint" t1 con]
structure NewSub (w : World) (ty con : Value) (news : List (Addr × Obj)) (r : Value) (news' : List (Addr × Obj)) : Prop where
  out : ∃ (x dx : Addr) (es : List DictEntry), r = .ref x ∧ news' = (x, instObj 53 dx) :: (dx, dictOf es 2) :: news ∧ SubE w ty con es ∧ (∀ p ∈ news, p.1 < dx) ∧ dx < x
noncomputable def kd (K0 K1 K2 K3 : Addr) (i : Int) : Addr := if i = 0 then K0 else if i = 1 then K1 else if i = 2 then K2 else K3
theorem int_cases4 {i : Int} (h0 : 0 ≤ i) (h4 : i < 4) : i = 0 ∨ i = 1 ∨ i = 2 ∨ i = 3 := by omega
theorem kd_item {K0 K1 K2 K3 : Addr} {i : Int} (h0 : 0 ≤ i) (h4 : i < 4) : (#[Value.ref K0, .ref K1, .ref K2, .ref K3] : Array Value)[i.toNat]? = some (.ref (kd K0 K1 K2 K3 i)) := by
  rcases int_cases4 h0 h4 with rfl | rfl | rfl | rfl <;> rfl
theorem kinds_item {prog : Program} {w : World} {A : Around} {E : Value → Shared → Prop} {s : Shared} {h₀ : Heap} {L : Addr} {news : List (Addr × Obj)} {value slice : PySem.Expr} {k K0 K1 K2 K3 : Addr} {n : Nat} {i : Int} {u : Tok} {Q : Value → Shared → Prop} (N : News h₀ L s.heap news)
    (hm : (k, W.listOf #[.ref K0, .ref K1, .ref K2, .ref K3] n) ∈ news) (h0 : 0 ≤ i) (h4 : i < 4) (h : Q (.ref (kd K0 K1 K2 K3 i)) s)
    (hs : subscripted slice false (.ref k) (.int i u) = operate [.ref k, .int i u] (getItem (.ref k) (.int i u)) := by with_unfolding_all rfl) : wpAny (model prog w) A (subscriptTail value slice (.ref k) (.int i u)) Q E s :=
  tail_any (N.isList hm).typeIs slot_list_getitem.lookup (wpAny_getItem_list (N.isList hm) h0 (by omega) (kd_item h0 h4) h) hs
noncomputable def bv (p : Int) : Value := if p = 0 then .none else if p = 1 then .ref 212 else if p = 2 then .ref 213 else if p = 3 then .ref 214 else if p = 4 then .ref 215 else if p = 5 then .ref 216 else if p = 6 then .ref 217 else .ref 218
theorem int_cases8 {i : Int} (h0 : 0 ≤ i) (h8 : i < 8) : i = 0 ∨ i = 1 ∨ i = 2 ∨ i = 3 ∨ i = 4 ∨ i = 5 ∨ i = 6 ∨ i = 7 := by omega
theorem bv_item {i : Int} (h0 : 0 ≤ i) (h8 : i < 8) : ([Value.none, .ref 212, .ref 213, .ref 214, .ref 215, .ref 216, .ref 217, .ref 218] : List Value)[i.toNat]? = some (bv i) := by
  rcases int_cases8 h0 h8 with rfl | rfl | rfl | rfl | rfl | rfl | rfl | rfl <;> rfl
theorem bv_index {i : Int} (h0 : 0 ≤ i) (h8 : i < 8) : seqIndex? i 8 = some i.toNat := by
  rcases int_cases8 h0 h8 with rfl | rfl | rfl | rfl | rfl | rfl | rfl | rfl <;> rfl
theorem bounds_item {prog : Program} {w : World} {A : Around} {E : Value → Shared → Prop} {s : Shared} {K : Frag} {h₀ : Heap} {L : Addr} {m : Str → Option Value} {value slice : PySem.Expr} {a : Addr} {n : Nat} {dd : Option Addr} {sl : Array (Option Value)} {i : Int} {u : Tok} {Q : Value → Shared → Prop} (F : Fr h₀ L s.heap m) (X₀ : K.In h₀)
    (hl : K.lookup a = some ⟨.type "tuple", dd, .seq ([Value.none, .ref 212, .ref 213, .ref 214, .ref 215, .ref 216, .ref 217, .ref 218] : List Value).toArray n, sl⟩) (h0 : 0 ≤ i) (h8 : i < 8) (h : Q (bv i) s)
    (hs : subscripted slice false (.ref a) (.int i u) = operate [.ref a, .int i u] (getItem (.ref a) (.int i u)) := by with_unfolding_all rfl) : wpAny (model prog w) A (subscriptTail value slice (.ref a) (.int i u)) Q E s :=
  topTup_K F X₀ hl (by omega) (by omega) (bv_index h0 h8) (bv_item h0 h8) h hs
theorem range_12 {M : Model} {A : Around} {E : Value → Shared → Prop} {s : Shared} {i : Int} {t : Tok} {Q : Value → Shared → Prop} (h0 : 0 ≤ i) (h2 : i < 2) (h : i = 0 → wpAny M A (call (.type "range") [.int 1 t]) Q E s) (k : i = 1 → wpAny M A (call (.type "range") [.int 2 t]) Q E s) :
    wpAny M A (call (.type "range") [.int (1 + i) t]) Q E s := by
  rcases (by omega : i = 0 ∨ i = 1) with rfl | rfl
  · exact h rfl
  · exact k rfl
theorem offTail {I C D : Addr} {p : Addr × Obj} {r : List (Addr × Obj)} (h : LCg.Off3 I C D (p :: r)) : LCg.Off3 I C D r := h.2
theorem compEnd0 {h₀ : Heap} {L I C D : Addr} {m : Str → Option Value} {s₁ : Shared} {oI oC oD : Obj} {S : List (Addr × Obj) → Prop} {rest : Value → List (Addr × Obj) → Prop} {y : Value} {h' : Heap} {tk : Nat} {n : List (Addr × Obj)}
    (F : Fr h₀ L h' m) (N : News h₀ L h' ((I, oI) :: (C, oC) :: (D, oD) :: n)) (off : LCg.Off3 I C D n) (hS : S n) (r : rest y n) :
    LCg.CompEnd h₀ L m s₁ I oI C oC D oD S rest y { s₁ with heap := h', toks := tk } := LCg.CompEnd.intro F N n (fun _ h => h) off hS r
theorem compEnd2 {h₀ : Heap} {L I C D : Addr} {m : Str → Option Value} {s₁ : Shared} {oI oC oD : Obj} {S : List (Addr × Obj) → Prop} {rest : Value → List (Addr × Obj) → Prop} {y : Value} {h' : Heap} {tk : Nat} {n : List (Addr × Obj)} {a b : Addr × Obj}
    (F : Fr h₀ L h' m) (N : News h₀ L h' (a :: b :: (I, oI) :: (C, oC) :: (D, oD) :: n)) (off : LCg.Off3 I C D (a :: b :: n)) (hS : S (a :: b :: n)) (r : rest y (a :: b :: n)) :
    LCg.CompEnd h₀ L m s₁ I oI C oC D oD S rest y { s₁ with heap := h', toks := tk } := LCg.CompEnd.intro F N (a :: b :: n) (fun p h => by
      simp only [List.mem_cons] at h ⊢
      rcases h with h | h | h | h | h | h <;> simp [h]) off hS r
theorem ltOfAll {l : List (Addr × Obj)} {a d : Addr} {o : Obj} (h : ∀ p ∈ l, p.1 < a) (hm : (d, o) ∈ l) : @LT.lt Nat _ d a := h _ hm
theorem all_cons {l : List (Addr × Obj)} {a b : Addr} {o : Obj} (h : ∀ p ∈ l, p.1 < a) (hab : a < b) : ∀ p ∈ (a, o) :: l, p.1 < b := fun p hp => (List.mem_cons.mp hp).elim (fun e => e ▸ hab) fun hp => Nat.lt_trans (h p hp) hab
theorem all_succ {l : List (Addr × Obj)} {a : Addr} (h : ∀ p ∈ l, p.1 < a) : ∀ p ∈ l, p.1 < a + 1 := fun p hp => Nat.lt_succ_of_lt (h p hp)
structure NeAll (l : List (Addr × Obj)) (a : Addr) : Prop where
  out : ∀ p ∈ l, p.1 ≠ a
theorem NeAll.of {l : List (Addr × Obj)} {a : Addr} (h : ∀ p ∈ l, p.1 < a) : NeAll l a := ⟨all_ne h⟩
theorem NeAll.tail {e : Addr × Obj} {l : List (Addr × Obj)} {a : Addr} (h : NeAll (e :: l) a) : NeAll l a := ⟨fun p hp => h.out p (.tail _ hp)⟩
structure OffR (I C D : Addr) (l : List (Addr × Obj)) : Prop where
  out : LCg.Off3 I C D l
theorem OffR.tail {I C D : Addr} {e : Addr × Obj} {l : List (Addr × Obj)} (h : OffR I C D (e :: l)) : OffR I C D l := ⟨h.out.2⟩
theorem off1Mem {D d : Addr} {o : Obj} : ∀ {l : List (Addr × Obj)}, LCg.Off1 D l → (d, o) ∈ l → d ≠ D
  | [], _, h => nomatch h
  | _ :: _, x, h => by
    rcases List.mem_cons.mp h with e | h
    · have := x.1; rw [← e] at this; exact this
    · exact off1Mem x.2 h
noncomputable def newOf (base lg : List (Addr × Obj)) : List (Addr × Obj) := by
  classical exact lg.filter fun q => decide (∀ p ∈ base, p.1 ≠ q.1)
theorem mem_new {base lg : List (Addr × Obj)} {q : Addr × Obj} (h : q ∈ lg) (k : ∀ p ∈ base, p.1 ≠ q.1) : q ∈ newOf base lg := by
  classical
  unfold newOf
  exact List.mem_filter.mpr ⟨h, decide_eq_true k⟩
theorem of_new {base lg : List (Addr × Obj)} {q : Addr × Obj} (h : q ∈ newOf base lg) : q ∈ lg ∧ ∀ p ∈ base, p.1 ≠ q.1 := by
  classical
  unfold newOf at h
  exact ⟨(List.mem_filter.mp h).1, of_decide_eq_true (List.mem_filter.mp h).2⟩
theorem ltAll2 {l rest : List (Addr × Obj)} {a d : Addr} {o o2 : Obj} (h : ∀ p ∈ l, p.1 < a) (hd : (d, o2) ∈ l) (hr : ∀ p ∈ rest, p ∈ l) : ∀ p ∈ (d, o) :: rest, p.1 ≠ a := fun p hp =>
  Nat.ne_of_lt ((List.mem_cons.mp hp).elim (fun e => by subst e; exact h (d, o2) hd) fun hp => h _ (hr _ hp))
theorem offAll2 {l rest : List (Addr × Obj)} {a d : Addr} {o o2 : Obj} (h : LCg.Off1 a l) (hd : (d, o2) ∈ l) (hr : ∀ p ∈ rest, p ∈ l) : ∀ p ∈ (d, o) :: rest, p.1 ≠ a := fun p hp =>
  (List.mem_cons.mp hp).elim (fun e => by subst e; exact off1Mem h hd) fun hp => off1Mem (o := p.2) h (hr p hp)
inductive MkAt (w : World) (K0 K1 K2 K3 : Addr) (ns : List (Addr × Obj)) : Addr → Int → Prop
  | mk {s ds : Addr} {es : List DictEntry} {i : Int} (h1 : (s, instObj 53 ds) ∈ ns) (h2 : (ds, dictOf es 2) ∈ ns) (h3 : SubE w (.ref (kd K0 K1 K2 K3 i)) .none es) (h0 : 0 ≤ i) (h4 : i < 4) : MkAt w K0 K1 K2 K3 ns s i
inductive Marks (w : World) (K0 K1 K2 K3 : Addr) (ns : List (Addr × Obj)) : Addr → List Int → Prop
  | one {li s : Addr} {i : Int} {n : Nat} (h : (li, W.listOf #[.ref s] n) ∈ ns) (m : MkAt w K0 K1 K2 K3 ns s i) : Marks w K0 K1 K2 K3 ns li [i]
  | two {li s s' : Addr} {i i' : Int} {n : Nat} (h : (li, W.listOf #[.ref s, .ref s'] n) ∈ ns) (m : MkAt w K0 K1 K2 K3 ns s i) (m' : MkAt w K0 K1 K2 K3 ns s' i') : Marks w K0 K1 K2 K3 ns li [i, i']
inductive Ints (ns : List (Addr × Obj)) : Addr → List Int → Prop
  | one {ix : Addr} {i : Int} {t : Tok} {n : Nat} (h : (ix, W.listOf #[.int i t] n) ∈ ns) : Ints ns ix [i]
  | two {ix : Addr} {i i' : Int} {t t' : Tok} {n : Nat} (h : (ix, W.listOf #[.int i t, .int i' t'] n) ∈ ns) : Ints ns ix [i, i']
inductive CompAt (w : World) (K0 K1 K2 K3 : Addr) (ns : List (Addr × Obj)) : Addr → Int → Prop
  | low {c dc : Addr} {es : List DictEntry} {p : Int} (h1 : (c, instObj 53 dc) ∈ ns) (h2 : (dc, dictOf es 2) ∈ ns) (h3 : SubE w (.ref (kd K0 K1 K2 K3 0)) (bv p) es) (h0 : 0 ≤ p) (h8 : p < 8) : CompAt w K0 K1 K2 K3 ns c p
  | enum {c dc : Addr} {es : List DictEntry} (h1 : (c, instObj 53 dc) ∈ ns) (h2 : (dc, dictOf es 2) ∈ ns) (h3 : SubE w (.ref (kd K0 K1 K2 K3 3)) .none es) : CompAt w K0 K1 K2 K3 ns c 8
inductive ArrAt (w : World) (K0 K1 K2 K3 : Addr) (ns : List (Addr × Obj)) (num : Int) (par : Value) : Addr → List Int → Int → Prop
  | mk {x dx ops li c : Addr} {es : List DictEntry} {oo : Obj} {js : List Int} {p : Int} (hx : (x, instObj 32 dx) ∈ ns) (hd : (dx, dictOf es 24) ∈ ns) (hE : TyE w (Str.ofString "array") num par .none .none (.ref li) (.ref c) ops es)
      (hq : (ops, oo) ∈ ns) (ho : Obj.IsDictOf (PySem.strKind PySem.Challenge.rw_rg0005_01.row.prog w) oo []) (hm : Marks w K0 K1 K2 K3 ns li js) (hc : CompAt w K0 K1 K2 K3 ns c p) : ArrAt w K0 K1 K2 K3 ns num par x js p
noncomputable def big (p : Int) : Int := if p = 8 then 3 else 0
noncomputable def cls (p : Int) : Int := if p = 2 then 1 else if p = 6 then 5 else if p = 8 then 0 else p
inductive RowAt (w : World) (K0 K1 K2 K3 : Addr) (ns : List (Addr × Obj)) (num : Int) : Addr → Addr → List Int → Int → Prop
  | mk {tu x ix : Addr} {js : List Int} {p b c : Int} {t t' : Tok} {n : Nat} (ht : (tu, ({ cls := .type "tuple", data := .seq #[.ref x, .ref ix, .int b t, .int c t'] n } : Obj)) ∈ ns) (hi : Ints ns ix js) (ha : ArrAt w K0 K1 K2 K3 ns num .none x js p)
      (hb : b = big p) (hc : c = cls p) : RowAt w K0 K1 K2 K3 ns num tu x js p
def RowOut (w : World) (K0 K1 K2 K3 : Addr) (l : Addr) (num b : Int) (r : Value) (o' : Obj) (ns : List (Addr × Obj)) : Prop :=
  ∃ tu x js p b' t', r = .ref tu ∧ RowAt w K0 K1 K2 K3 ns num tu x js p ∧ Obj.IsDictOf (PySem.strKind PySem.Challenge.rw_rg0005_01.row.prog w) o' [(Str.ofString "cells", .ref l), (Str.ofString "beat", .int b' t')] ∧ 0 ≤ b' ∧ b' ≤ b + 5
theorem row_fin {w : World} {K0 K1 K2 K3 l : Addr} {num b b' : Int} {t' : Tok} {d tu x : Addr} {o o' : Obj} {rest lg : List (Addr × Obj)} {js : List Int} {p : Int} {h₀ h : Heap} {L : Addr} {C : Prop} (N : News h₀ L h lg) (hd : (d, o') ∈ lg) (hr : ∀ p ∈ rest, p ∈ lg)
    (ho : Obj.IsDictOf (PySem.strKind PySem.Challenge.rw_rg0005_01.row.prog w) o' [(Str.ofString "cells", .ref l), (Str.ofString "beat", .int b' t')]) (h0 : 0 ≤ b') (h5 : b' ≤ b + 5) (hR : RowAt w K0 K1 K2 K3 (newOf ((d, o) :: rest) lg) num tu x js p)
    (k : ∀ ns, RowOut w K0 K1 K2 K3 l num b (.ref tu) o' ns → (∀ q ∈ ns, ∀ p ∈ (d, o) :: rest, p.1 ≠ q.1) → News h₀ L h ((d, o') :: (rest ++ ns)) → C) : C :=
  k (newOf ((d, o) :: rest) lg) ⟨tu, x, js, p, b', t', rfl, hR, ho, h0, h5⟩ (fun _ hq => (of_new hq).2) fun q hq => by
    rcases List.mem_cons.mp hq with rfl | hq
    · exact N _ hd
    · rcases List.mem_append.mp hq with hq | hq
      · exact N _ (hr _ hq)
      · exact N _ (of_new hq).1
theorem con_updN {prog : Program} {w : World} {K : Frag} {p : Program} {loose : List Str} {mean : ExcName → Option Value} {mg mb : Str → Option Value} {dN uN : Nat} {f : Addr} {vs : List Value} {news : List (Addr × Obj)} {d : Addr} {o : Obj} {g : Obj → List (Addr × Obj)} {P : Value → Obj → List (Addr × Obj) → Prop}
    (U : UpdF d o news g) (H : ∀ rest, (∀ p ∈ rest, p.1 ≠ d) → (∀ q ∈ news, q.1 ≠ d → q ∈ rest) → Con prog w K p loose mean mg mb dN uN f vs ((d, o) :: rest) (fun r news' => ∃ o' ns, P r o' ns ∧ (∀ q ∈ ns, ∀ p ∈ (d, o) :: rest, p.1 ≠ q.1) ∧ news' = (d, o') :: (rest ++ ns))) :
    Con prog w K p loose mean mg mb dN uN f vs news (fun r news' => ∃ o' ns, P r o' ns ∧ (∀ q ∈ ns, ∀ p ∈ news, p.1 ≠ q.1) ∧ news' = g o' ++ ns) := by
  obtain ⟨pre, post, rfl, hg, h1, h2⟩ := U.split
  have sub : ∀ q ∈ pre ++ (d, o) :: post, q ∈ (d, o) :: (pre ++ post) := fun q hq => by
    rcases List.mem_append.mp hq with h | h
    · exact .tail _ (List.mem_append_left _ h)
    · rcases List.mem_cons.mp h with rfl | h
      · exact .head _
      · exact .tail _ (List.mem_append_right _ h)
  intro dp un gd cn cs a ccd cl outer A₀ base h₀ L m s Q E B F X N T hk hd hu ret
  refine H (pre ++ post) (fun p hp => (List.mem_append.mp hp).elim (h1 p) (h2 p)) (fun q hq hne => ?_) dp un gd cn cs a ccd cl outer A₀ base h₀ L m s Q E B F X ?_ T hk hd hu fun r nw h' tk' hR F' N' => ?_
  · rcases List.mem_cons.mp (sub q hq) with e | h
    · exact absurd (by rw [e]) hne
    · exact h
  · intro q hq
    rcases List.mem_cons.mp hq with rfl | hq
    · exact N _ (List.mem_append_right _ (.head _))
    · rcases List.mem_append.mp hq with h | h
      · exact N _ (List.mem_append_left _ h)
      · exact N _ (List.mem_append_right _ (.tail _ h))
  · obtain ⟨o', ns, hP, hlt, rfl⟩ := hR
    refine ret r (g o' ++ ns) h' tk' ⟨o', ns, hP, fun q hq p hp => hlt q hq p (sub p hp), rfl⟩ F' ?_
    rw [hg]
    intro q hq
    rcases List.mem_append.mp hq with h | h
    · rcases List.mem_append.mp h with h | h
      · exact N' _ (.tail _ (List.mem_append_left _ (List.mem_append_left _ h)))
      · rcases List.mem_cons.mp h with rfl | h
        · exact N' _ (.head _)
        · exact N' _ (.tail _ (List.mem_append_left _ (List.mem_append_right _ h)))
    · exact N' _ (.tail _ (List.mem_append_right _ h))
structure TyG (k : Str) (num : Int) (par low high ix comp : Value) (es : List DictEntry) : Prop where
  kind : ∃ t, getL (Str.ofString "kind") es = some (some (.str k t))
  number : ∃ t, getL (Str.ofString "number") es = some (some (.int num t))
  parent : getL (Str.ofString "parent") es = some (some par)
  low : getL (Str.ofString "low") es = some (some low)
  high : getL (Str.ofString "high") es = some (some high)
  index : getL (Str.ofString "index") es = some (some ix)
  component : getL (Str.ofString "component") es = some (some comp)
  tagged : getL (Str.ofString "is_tagged") es = some (some (.bool false))
  priv : getL (Str.ofString "is_private") es = some (some (.bool false))
structure LtAll (l : List (Addr × Obj)) (a : Addr) : Prop where
  out : ∀ p ∈ l, p.1 < a
theorem LtAll.gt {l : List (Addr × Obj)} {a d : Addr} {o : Obj} (h : LtAll l a) (hm : (d, o) ∈ l) : a ≠ d := Nat.ne_of_gt (h.out _ hm)
theorem LtAll.lt {l : List (Addr × Obj)} {a d : Addr} {o : Obj} (h : LtAll l a) (hm : (d, o) ∈ l) : d ≠ a := Nat.ne_of_lt (h.out _ hm)
theorem LtAll.cons {l : List (Addr × Obj)} {a b : Addr} {o : Obj} (h : LtAll l a) (k : a < b) : LtAll ((a, o) :: l) b := ⟨all_cons h.out k⟩
theorem LtAll.ne {l : List (Addr × Obj)} {a : Addr} (h : LtAll l a) : NeAll l a := NeAll.of h.out
theorem LtAll.all2 {l rest : List (Addr × Obj)} {a d : Addr} {o o2 : Obj} (h : LtAll l a) (hd : (d, o2) ∈ l) (hr : ∀ p ∈ rest, p ∈ l) : ∀ p ∈ (d, o) :: rest, p.1 ≠ a := ltAll2 h.out hd hr
theorem LtAll.sub {l r : List (Addr × Obj)} {a : Addr} (h : LtAll l a) (k : ∀ p ∈ r, p ∈ l) : ∀ p ∈ r, p.1 ≠ a := fun p hp => Nat.ne_of_lt (h.out _ (k p hp))
theorem memOf {q : Addr × Obj} {l : List (Addr × Obj)} (h : q ∈ l) : List.Mem q l := h
theorem scalar_in {prog : Program} {w : World} {A : Around} {E : Value → Shared → Prop} {s : Shared} {K : Frag} {h₀ : Heap} {L : Addr} {m : Str → Option Value} {a : Addr} {n : Nat} {dd : Option Addr} {sl : Array (Option Value)} {l : List Value} {ys : List Str} {x : Str} {u : Tok} {Q : Value → Shared → Prop} (F : Fr h₀ L s.heap m) (X₀ : K.In h₀)
    (hl : K.lookup a = some ⟨.type "tuple", dd, .seq l.toArray n, sl⟩) (hi : StrsAre l ys) (hx : ys.any (· == x) = true) (h : Q (.bool true) s) : wpAny (model prog w) A (compareOp .In (.str x u) (.ref a)) Q E s :=
  in_tuple_strs (tupK (X₀.keeps F.keep) hl) (by simpa using hi) (by rw [hx]; exact h)
theorem slice3_applied {prog : Program} {w : World} {A : Around} {E : Value → Shared → Prop} {s : Shared} {sl : Addr} {u : Tok} {Q : Int × Int × Nat → Shared → Prop} (hs : s.heap.IsSliceOf sl .none (.int 3 u) .none) (h : Q (0, 1, 3) s) :
    wpAny (model prog w) A (Builtin.Slice.sliceApplied (.ref sl) (pure (3 : Int))) Q E s := by
  obtain ⟨os, hos, hcs, hds⟩ := id hs
  unfold Builtin.Slice.sliceApplied Builtin.Slice.sliceFields
  refine wpAny_bind (wpAny_bind (wpAny_field hos hds (x := .none) rfl (wpAny_bind (wpAny_field hos hds (x := .int 3 u) rfl (wpAny_bind (wpAny_field hos hds (x := .none) rfl (wpAny_pure ?_)))))))
  refine wpAny_bind (slicePart_none ?_)
  show wpAny _ _ (if ((1 : Int) == 0) = true then _ else _) _ _ s
  rw [if_neg (by decide)]
  exact wpAny_bind (slicePart_none (wpAny_bind (slicePart_int (wpAny_bind (wpAny_pure (wpAny_pure h))))))
theorem getItem_tuple3 {prog : Program} {w : World} {A : Around} {E : Value → Shared → Prop} {s : Shared} {t sl : Addr} {a b c : Value} {u : Tok} {Q : Value → Shared → Prop} (ht : IsTup s.heap t #[a, b, c]) (hs : s.heap.IsSliceOf sl .none (.int 3 u) .none) (h : Q (.ref t) s) :
    wpAny (model prog w) A (getItem (.ref t) (.ref sl)) Q E s := by
  obtain ⟨os, hos, hcs, hds⟩ := id hs
  have hTs : s.TypeIs (.ref sl) "slice" := ⟨os, hos, hcs⟩
  unfold getItem
  try with_reducible refine wpAny_holding ?_
  first | refine wpAny_bind (wpAny_pure ?_) | skip
  refine wpAny_bind (wpAny_sequenceKey ht.typeIs (by decide) ?_)
  refine wpAny_bind (wpAny_callSpecial?_slot (name := Str.ofString "__getitem__") ht.typeIs slot_tuple_getitem
    (wpAny_call_entry slot_tuple_getitem ht.typeIs entry_tuple_getitem ?_ (args_tuple_getitem _ _)))
  show wpAny _ _ (Builtin.Tuple.tupleItemsOf (.ref t) >>= _) _ _ s
  refine wpAny_bind (tupleItemsOf_ ht ?_)
  refine wpAny_bind (wpAny_typeOf hTs ?_)
  rw [if_pos (by decide)]
  refine wpAny_bind (slice3_applied hs ?_)
  show wpAny _ _ (if ((0 : Int) == 0 && (1 : Int) == 1 && (3 : Nat) == 3) = true then _ else _) _ _ s
  rw [if_pos (by decide)]
  refine wpAny_bind (wpAny_bind (wpAny_typeOf ht.typeIs (wpAny_pure ?_)))
  rw [if_pos (by decide)]
  exact wpAny_bind (wpAny_rule (wpAny_pure ⟨_, rfl, wpAny_pure h⟩))
theorem slice_tuple3 {prog : Program} {w : World} {A : Around} {E : Value → Shared → Prop} {s : Shared} {h₀ : Heap} {L : Addr} {m : Str → Option Value} {news : List (Addr × Obj)} {value slice : PySem.Expr} {t : Addr} {a b c : Value} {u : Tok} {Q : Value → Shared → Prop}
    (F : Fr h₀ L s.heap m) (N : News h₀ L s.heap news) (ht : IsTup s.heap t #[a, b, c]) (h : ∀ h', Fr h₀ L h' m → News h₀ L h' news → Q (.ref t) { s with heap := h' })
    (hs : subscripted slice false (.ref t) (.ref s.heap.objs.size) = operate [.ref s.heap.objs.size, .ref t] (getItem (.ref t) (.ref s.heap.objs.size)) := by with_unfolding_all rfl)
    (hg : ∀ r, letTemporaryGo value (.ref t) r = pure () := by intro _; with_unfolding_all rfl) :
    wpAny (model prog w) A (subscriptTail value slice (.ref t) (.ref s.heap.objs.size)) Q E { s with heap := s.heap.push { cls := .type "slice", data := .fields #[.none, .int 3 u, .none] } } := by
  have ht' : IsTup (s.heap.push { cls := .type "slice", data := .fields #[.none, .int 3 u, .none] }) t #[a, b, c] := ht.keeps fun _ _ e => Heap.get?_push_of_some _ e
  exact subscriptTail_ops (s := { s with heap := s.heap.push { cls := .type "slice", data := .fields #[.none, .int 3 u, .none] } }) ht'.typeIs slot_tuple_getitem.lookup
    (getItem_tuple3 ht' (Heap.IsSliceOf.new ..) (h _ (F.push _) (N.grown fun _ _ e => Heap.get?_push_of_some _ e))) hs hg
theorem eqv_RR {lo1 hi1 lo2 hi2 : Int} : PyData.eqv (PyData.tuple [.str (Str.ofString "range"), .int lo1, .int hi1]) (PyData.tuple [.str (Str.ofString "range"), .int lo2, .int hi2]) = (lo1 == lo2 && hi1 == hi2) := by simp [PyData.eqv, PyData.eqvAll]
theorem str_rn : (Str.ofString "range" == Str.ofString "named") = false := by decide +kernel
theorem str_nr : (Str.ofString "named" == Str.ofString "range") = false := by decide +kernel
theorem eqv_RN {lo1 hi1 lo2 : Int} {s2 : Str} : PyData.eqv (PyData.tuple [.str (Str.ofString "range"), .int lo1, .int hi1]) (PyData.tuple [.str (Str.ofString "named"), .int lo2, .str s2]) = false := by simp only [PyData.eqv, PyData.eqvAll, str_rn, Bool.false_and]
theorem eqv_NR {lo1 lo2 hi2 : Int} {s1 : Str} : PyData.eqv (PyData.tuple [.str (Str.ofString "named"), .int lo1, .str s1]) (PyData.tuple [.str (Str.ofString "range"), .int lo2, .int hi2]) = false := by simp only [PyData.eqv, PyData.eqvAll, str_nr, Bool.false_and]
theorem shaped_R {lo hi : Int} : SeqAt.shaped (PyData.tuple [.str (Str.ofString "range"), .int lo, .int hi]) = true := by
  have h : PyData.strOk (Str.ofString "range") = true := by decide +kernel
  simp [SeqAt.shaped, PyData.canLay0, PyData.canLayAll0, PyData.depth, PyData.depthAll, h]
theorem shaped_N {lo : Int} {s : Str} (hs : PyData.strOk s = true) : SeqAt.shaped (PyData.tuple [.str (Str.ofString "named"), .int lo, .str s]) = true := by
  have h : PyData.strOk (Str.ofString "named") = true := by decide +kernel
  simp [SeqAt.shaped, PyData.canLay0, PyData.canLayAll0, PyData.depth, PyData.depthAll, h, hs]
theorem eq_RR {prog : Program} {w : World} {A : Around} {E : Value → Shared → Prop} {s : Shared} {Q : Value → Shared → Prop} {a b : Addr} {d1 d2 : Option Addr} {sl1 sl2 : Array (Option Value)} {m1 m2 : Nat} {u1 v1 w1 u2 v2 w2 : Tok} {lo1 hi1 lo2 hi2 : Int} (g1 : s.heap.get? a = some ⟨.type "tuple", d1, .seq ([.str (Str.ofString "range") u1, .int lo1 v1, .int hi1 w1] : List Value).toArray m1, sl1⟩) (g2 : s.heap.get? b = some ⟨.type "tuple", d2, .seq ([.str (Str.ofString "range") u2, .int lo2 v2, .int hi2 w2] : List Value).toArray m2, sl2⟩) (hu : A.units + 64 < cLine) (h : Q (.bool (lo1 == lo2 && hi1 == hi2)) s) : wpAny (model prog w) A (compareOp .Eq (.ref a) (.ref b)) Q E s :=
  eq_dataH (reads_tuple_at g1 rfl rfl (ReadsAll.cons (Reads.str _ _) (ReadsAll.cons (Reads.int _ _) (ReadsAll.cons (Reads.int _ _) ReadsAll.nil)))) (reads_tuple_at g2 rfl rfl (ReadsAll.cons (Reads.str _ _) (ReadsAll.cons (Reads.int _ _) (ReadsAll.cons (Reads.int _ _) ReadsAll.nil)))) shaped_R shaped_R hu (by rw [eqv_RR]; exact h)
theorem eq_RN {prog : Program} {w : World} {A : Around} {E : Value → Shared → Prop} {s : Shared} {Q : Value → Shared → Prop} {a b : Addr} {d1 d2 : Option Addr} {sl1 sl2 : Array (Option Value)} {m1 m2 : Nat} {u1 v1 w1 u2 v2 w2 : Tok} {lo1 hi1 lo2 : Int} {s2 : Str} (hs2 : PyData.strOk s2 = true) (g1 : s.heap.get? a = some ⟨.type "tuple", d1, .seq ([.str (Str.ofString "range") u1, .int lo1 v1, .int hi1 w1] : List Value).toArray m1, sl1⟩) (g2 : s.heap.get? b = some ⟨.type "tuple", d2, .seq ([.str (Str.ofString "named") u2, .int lo2 v2, .str s2 w2] : List Value).toArray m2, sl2⟩) (hu : A.units + 64 < cLine) (h : Q (.bool false) s) : wpAny (model prog w) A (compareOp .Eq (.ref a) (.ref b)) Q E s :=
  eq_dataH (reads_tuple_at g1 rfl rfl (ReadsAll.cons (Reads.str _ _) (ReadsAll.cons (Reads.int _ _) (ReadsAll.cons (Reads.int _ _) ReadsAll.nil)))) (reads_tuple_at g2 rfl rfl (ReadsAll.cons (Reads.str _ _) (ReadsAll.cons (Reads.int _ _) (ReadsAll.cons (Reads.str _ _) ReadsAll.nil)))) shaped_R (shaped_N hs2) hu (by rw [eqv_RN]; exact h)
theorem eq_NR {prog : Program} {w : World} {A : Around} {E : Value → Shared → Prop} {s : Shared} {Q : Value → Shared → Prop} {a b : Addr} {d1 d2 : Option Addr} {sl1 sl2 : Array (Option Value)} {m1 m2 : Nat} {u1 v1 w1 u2 v2 w2 : Tok} {lo1 lo2 hi2 : Int} {s1 : Str} (hs1 : PyData.strOk s1 = true) (g1 : s.heap.get? a = some ⟨.type "tuple", d1, .seq ([.str (Str.ofString "named") u1, .int lo1 v1, .str s1 w1] : List Value).toArray m1, sl1⟩) (g2 : s.heap.get? b = some ⟨.type "tuple", d2, .seq ([.str (Str.ofString "range") u2, .int lo2 v2, .int hi2 w2] : List Value).toArray m2, sl2⟩) (hu : A.units + 64 < cLine) (h : Q (.bool false) s) : wpAny (model prog w) A (compareOp .Eq (.ref a) (.ref b)) Q E s :=
  eq_dataH (reads_tuple_at g1 rfl rfl (ReadsAll.cons (Reads.str _ _) (ReadsAll.cons (Reads.int _ _) (ReadsAll.cons (Reads.str _ _) ReadsAll.nil)))) (reads_tuple_at g2 rfl rfl (ReadsAll.cons (Reads.str _ _) (ReadsAll.cons (Reads.int _ _) (ReadsAll.cons (Reads.int _ _) ReadsAll.nil)))) (shaped_N hs1) shaped_R hu (by rw [eqv_NR]; exact h)
theorem topGet {K : Frag} {h₀ h : Heap} {L b : Addr} {m : Str → Option Value} {o : Obj} (F : Fr h₀ L h m) (X : K.In h₀) (hb : K.lookup b = some o) : h.get? b = some o := (X.keeps F.keep) _ _ hb
structure OffS (I C D : Addr) (l : List (Addr × Obj)) : Prop where
  out : LCg.Off3 I C D l
theorem OffS.i {I C D d : Addr} {o : Obj} {l : List (Addr × Obj)} (h : OffS I C D l) (hm : (d, o) ∈ l) : d ≠ I := (LCg.Off3.mem h.out _ hm).1
theorem OffS.c {I C D d : Addr} {o : Obj} {l : List (Addr × Obj)} (h : OffS I C D l) (hm : (d, o) ∈ l) : d ≠ C := (LCg.Off3.mem h.out _ hm).2.1
theorem OffS.d {I C D d : Addr} {o : Obj} {l : List (Addr × Obj)} (h : OffS I C D l) (hm : (d, o) ∈ l) : d ≠ D := (LCg.Off3.mem h.out _ hm).2.2
structure OffO (D : Addr) (l : List (Addr × Obj)) : Prop where
  out : LCg.Off1 D l
theorem OffO.ne {D d : Addr} {o : Obj} {l : List (Addr × Obj)} (h : OffO D l) (hm : (d, o) ∈ l) : d ≠ D := off1Mem h.out hm
theorem OffO.all2 {l rest : List (Addr × Obj)} {a d : Addr} {o o2 : Obj} (h : OffO a l) (hd : (d, o2) ∈ l) (hr : ∀ p ∈ rest, p ∈ l) : ∀ p ∈ (d, o) :: rest, p.1 ≠ a := offAll2 h.out hd hr
theorem TyE.get {w : World} {k : Str} {num : Int} {par low high ix comp : Value} {ops : Addr} {es : List DictEntry} (h : TyE w k num par low high ix comp ops es) : TyG k num par low high ix comp es := by
  cases h
  exact ⟨⟨_, rfl⟩, ⟨_, rfl⟩, rfl, rfl, rfl, rfl, rfl, rfl, rfl⟩
theorem SubE.ty {w : World} {ty con : Value} {es : List DictEntry} (h : SubE w ty con es) : getL (Str.ofString "type") es = some (some ty) := by cases h; rfl
theorem SubE.con {w : World} {ty con : Value} {es : List DictEntry} (h : SubE w ty con es) : getL (Str.ofString "constraint") es = some (some con) := by cases h; rfl
theorem newsSub {h₀ h : Heap} {L : Addr} {l q : List (Addr × Obj)} (N : News h₀ L h l) (k : ∀ p ∈ q, p ∈ l) : News h₀ L h q := fun p hp => N p (k p hp)
theorem subNil {l : List (Addr × Obj)} : ∀ p ∈ ([] : List (Addr × Obj)), p ∈ l := fun _ h => nomatch h
theorem subCons {l r : List (Addr × Obj)} {q : Addr × Obj} (h : q ∈ l) (hr : ∀ p ∈ r, p ∈ l) : ∀ p ∈ q :: r, p ∈ l := fun _ hp => (List.mem_cons.mp hp).elim (fun e => e ▸ h) (hr _)
theorem subTail {l r : List (Addr × Obj)} {q : Addr × Obj} (h : ∀ p ∈ l, p ∈ r) : ∀ p ∈ l, p ∈ q :: r := fun p hp => .tail _ (h p hp)
theorem subRfl {l : List (Addr × Obj)} : ∀ p ∈ l, p ∈ l := fun _ h => h
section
local macro_rules | `(tactic| walk_at $s:str) => `(tactic| k_extra $s)
local macro_rules | `(tactic| k_room) => `(tactic| ((try simp only [depth_under_make, depth_under_kw, depth_mark, depth_in1, depth_deeper]); (try dsimp only [ktrTop]); omega))
section
local macro_rules | `(tactic| k_all) => `(tactic| first | assumption | exact all_ne (by assumption))
local macro_rules | `(tactic| tb_start) => `(tactic| first | exact subRfl | exact subNil | (refine' subCons ?sa ?sb; (case sa => k_mem); (case sb => tb_start)) | (refine' subTail ?sc; (case sc => tb_start)))
theorem type_con {w : World} {loose : List Str} {mean : ExcName → Option Value} {mg mb : Str → Option Value} {news : List (Addr × Obj)} {k nm : Str} {t1 t2 : Tok} :
    Con PySem.Challenge.rw_rg0005_01.row.prog w (KK w.params) VV loose mean mg mb 10 100 32 [.str k t1, .str nm t2] news
      (fun r news' => ∃ ix, NewTy w k 0 .none .none .none (.ref ix) .none news r news') := by
  k_with_none
  unfold Con
  k_fill
  intro dp un gd cn cs a ccd cl outer A₀ base h₀ L m s Q E B F X N T hk hd hu ret
  k_dflt (refine' call_cls ?k1 ?k2 ?k3 ?k4 ?k5 ?k6 ?_; (case k1 => k_asm); (case k2 => k_asm); (case k3 => k_asm); (case k4 => k_is); (case k5 => k_is); (case k6 => k_is); k_whole; intro x' d' h' F' N' l1 l2; (try k_lt2 l2); (try k_sweep); cell_enter)
  k_steps
  refine' newTy_out ?N ?hx ?hd ?hE ?hm ?ho ?hn l1 l2 ?h3 ?k
  case N => k_asm
  case hx => k_mem
  case hd => k_mem
  case hE => exact TyE.mk _ _ _ _ _ _ _ _ _ _ _ _ _ _ _ _ _ _ _ _ _ _ _ _ _ _ _ _ _ _ _ _ _ _ _
  case hm => k_mem
  case ho => assumption
  case hn => tb_start
  case h3 => refine ltN ?_; omega
  case k => exact fun nw hR N1 => ret _ nw _ _ ⟨_, hR⟩ (by k_asm) N1
end
section
local macro_rules | `(tactic| k_all) => `(tactic| first | assumption | exact all_ne (by assumption))
local macro_rules | `(tactic| k_mem) => `(tactic| assumption)
local macro_rules | `(tactic| tb_start) => `(tactic| first | exact subRfl | exact subNil | (refine' subCons ?sa ?sb; (case sa => k_mem); (case sb => tb_start)) | (refine' subTail ?sc; (case sc => tb_start)))
local macro_rules | `(tactic| tbn_conj) => `(tactic| ((case c1 => k_asm); (case c2 => k_asm); (case c3 => k_asm); (case c4 => k_asm); (case c5 => k_asm); (case c6 => first | exact rfl | assumption); (case c7 => first | k_room | ktr_room); (case c8 => ktr_units)))
local macro_rules | `(tactic| tb_rel) => `(tactic| ((case N => k_asm); (case hx => k_mem); (case hd => k_mem); (case hE => exact TyE.mk _ _ _ _ _ _ _ _ _ _ _ _ _ _ _ _ _ _ _ _ _ _ _ _ _ _ _ _ _ _ _ _ _ _ _); (case hm => k_mem); (case ho => assumption); (case hn => tb_start); (case l1 => assumption); (case l2 => assumption); (case h3 => assumption)))
theorem int_type_con {w : World} {loose : List Str} {mean : ExcName → Option Value} {mg mb : Str → Option Value} {news : List (Addr × Obj)} {nm : Str} {t1 : Tok} {lo hi : Value} :
    Con PySem.Challenge.rw_rg0005_01.row.prog w (KK w.params) VV loose mean mg mb 20 200 64 [.str nm t1, lo, hi] news
      (fun r news' => ∃ ix, NewTy w (Str.ofString "int") 0 .none lo hi (.ref ix) .none news r news') := by
  k_with_none
  (k_with "call ref" => (k_here; (with_reducible show wpAny _ _ (call (Value.ref 32) _) _ _ _); k_dflt (refine' Con.use type_con ?c1 ?c2 ?c3 ?c4 ?c5 ?c6 ?c7 ?c8 ?_; tbn_conj; k_whole); intro r' nw' h' tk' hR' F' N'; obtain ⟨ix', ⟨x', dx', ops', es', oo', hr', hn', hE', ho', l1, l2, l3⟩⟩ := hR'; subst hr'; subst hn'; cases hE'; (try k_lt2 l2); (try k_lt2 l3); (have l1t := l1); (iterate 12 (try replace l1t := tail_lt l1t)); (try k_lt l1); (try k_sweep)))
  (k_with "call type:list" => (k_here; (with_reducible show wpAny _ _ (call (Value.type _) [Value.ref _]) _ _ _); k_dflt (refine' list_copyK ?Fzz ?Nzz ?bzz ?_ ?zzz; (case Fzz => k_asm); (case Nzz => k_asm); (case bzz => exact News.isList (by k_asm) (by k_mem)); (case zzz => first | exact Nat.le_of_ble_eq_true rfl | (simp only [List.size_toArray, sizeLine_eq]; omega))); intro D' c' h' F' N' l1; (try k_lt l1); (try k_sweep)))
  unfold Con
  k_fill
  intro dp un gd cn cs a ccd cl outer A₀ base h₀ L m s Q E B F X N T hk hd hu ret
  refine wpAny_call ?_
  k_dflt cell_enter
  k_steps
  refine' newTy_out (news := news) ?N ?hx ?hd ?hE ?hm ?ho ?hn ?l1 ?l2 ?h3 ?k
  tb_rel
  exact fun nw hR N1 => ret _ nw _ _ ⟨_, hR⟩ (by k_asm) N1
theorem mod_type_con {w : World} {loose : List Str} {mean : ExcName → Option Value} {mg mb : Str → Option Value} {news : List (Addr × Obj)} {nm : Str} {t1 t2 : Tok} :
    Con PySem.Challenge.rw_rg0005_01.row.prog w (KK w.params) VV loose mean mg mb 20 200 78 [.str nm t1, .int 8 t2] news
      (fun r news' => ∃ ix t t', NewTy w (Str.ofString "mod") 0 .none (.int 0 t) (.int 7 t') (.ref ix) .none news r news') := by
  unfold Con
  k_fill
  intro dp un gd cn cs a ccd cl outer A₀ base h₀ L m s Q E B F X N T hk hd hu ret
  refine wpAny_call ?_
  k_dflt cell_enter
  k_steps
  refine' newTy_out (news := news) ?N ?hx ?hd ?hE ?hm ?ho ?hn ?l1 ?l2 ?h3 ?k
  tb_rel
  exact fun nw hR N1 => ret _ nw _ _ ⟨_, _, _, hR⟩ (by k_asm) N1
theorem enum_type_con {w : World} {loose : List Str} {mean : ExcName → Option Value} {mg mb : Str → Option Value} {news : List (Addr × Obj)} {nm : Str} {t1 : Tok} {l : Addr} {a b c : Value} (hl : (l, W.listOf #[a, b, c] 0) ∈ news) :
    Con PySem.Challenge.rw_rg0005_01.row.prog w (KK w.params) VV loose mean mg mb 20 200 71 [.str nm t1, .ref l] news
      (fun r news' => ∃ ix t t', NewTy w (Str.ofString "enum") 0 .none (.int 0 t) (.int 2 t') (.ref ix) .none news r news') := by
  unfold Con
  k_fill
  intro dp un gd cn cs a ccd cl outer A₀ base h₀ L m s Q E B F X N T hk hd hu ret
  refine wpAny_call ?_
  k_dflt cell_enter
  k_steps
  refine' newTy_out (news := news) ?N ?hx ?hd ?hE ?hm ?ho ?hn ?l1 ?l2 ?h3 ?k
  tb_rel
  exact fun nw hR N1 => ret _ nw _ _ ⟨_, _, _, hR⟩ (by k_asm) N1
theorem array_type_con {w : World} {loose : List Str} {mean : ExcName → Option Value} {mg mb : Str → Option Value} {news : List (Addr × Obj)} {nm : Str} {t1 : Tok} {l : Addr} {marks : List Value} {e : Nat} {comp : Value} {cons : Bool} (hl : (l, W.listOf marks.toArray e) ∈ news) (hm : marks.length ≤ 2) :
    Con PySem.Challenge.rw_rg0005_01.row.prog w (KK w.params) VV loose mean mg mb 20 200 85 [.str nm t1, .ref l, comp, .bool cons] news
      (fun r news' => NewArr w 0 comp marks news r news') := by
  unfold Con
  k_fill
  intro dp un gd cn cs a ccd cl outer A₀ base h₀ L m s Q E B F X N T hk hd hu ret
  refine wpAny_call ?_
  k_dflt cell_enter
  k_steps
  refine' newArr_out (news := news) ?N ?hx ?hd ?hE ?hm ?hl ?ho ?hn ?l1 ?l2 ?h3 ?h4 ?k
  tb_rel
  case hl => k_mem
  case h4 => refine ltN ?_; omega
  exact fun nw hR N1 => ret _ nw _ _ hR (by k_asm) N1
end
section
local macro_rules | `(tactic| k_all) => `(tactic| first | assumption | exact all_ne (by assumption))
local macro_rules | `(tactic| k_mem) => `(tactic| assumption)
local macro_rules | `(tactic| tb_start) => `(tactic| first | exact subRfl | exact subNil | (refine' subCons ?sa ?sb; (case sa => k_mem); (case sb => tb_start)) | (refine' subTail ?sc; (case sc => tb_start)))
local macro_rules | `(tactic| tbn_conj) => `(tactic| ((case c1 => k_asm); (case c2 => k_asm); (case c3 => k_asm); (case c4 => k_asm); (case c5 => k_asm); (case c6 => first | exact rfl | assumption); (case c7 => first | k_room | ktr_room); (case c8 => ktr_units)))
local macro_rules | `(tactic| tb_rel) => `(tactic| ((case N => k_asm); (case hx => k_mem); (case hd => k_mem); (case hE => exact TyE.mk _ _ _ _ _ _ _ _ _ _ _ _ _ _ _ _ _ _ _ _ _ _ _ _ _ _ _ _ _ _ _ _ _ _ _); (case hm => k_mem); (case ho => assumption); (case hn => tb_start); (case l1 => assumption); (case l2 => assumption); (case h3 => assumption)))
theorem numbered_con {w : World} {loose : List Str} {mean : ExcName → Option Value} {mg mb : Str → Option Value} {news : List (Addr × Obj)} {x dx : Addr} {k : Str} {num0 num : Int} {par low high ix comp : Value} {ops : Addr} {es : List DictEntry} {t : Tok} {f : Obj → List (Addr × Obj)}
    (hx : (x, instObj 32 dx) ∈ news) (hne : x ≠ dx) (hE : TyE w k num0 par low high ix comp ops es) (U : UpdF dx (dictOf es 24) news f) :
    Con PySem.Challenge.rw_rg0005_01.row.prog w (KK w.params) VV loose mean mg mb 20 200 99 [.ref x, .int num t] news
      (fun r news' => ∃ o', (r = .ref x ∧ ∃ es', TyE w k num par low high ix comp ops es' ∧ o' = dictOf es' 24) ∧ news' = f o') := by
  k_with_none
  (k_with "call ref" => (k_here; (with_reducible show wpAny _ _ (call (Value.ref 32) _) _ _ _); k_dflt (refine' Con.use type_con ?c1 ?c2 ?c3 ?c4 ?c5 ?c6 ?c7 ?c8 ?_; tbn_conj; k_whole); intro r' nw' h' tk' hR' F' N'; obtain ⟨ix', ⟨x', dx', ops', es', oo', hr', hn', hE', ho', l1, l2, l3⟩⟩ := hR'; subst hr'; subst hn'; cases hE'; (try k_lt2 l2); (try k_lt2 l3); (have l1t := l1); (iterate 12 (try replace l1t := tail_lt l1t)); (try k_lt l1); (try k_sweep)))
  (k_with "call type:list" => (k_here; (with_reducible show wpAny _ _ (call (Value.type _) [Value.ref _]) _ _ _); k_dflt (refine' list_copyK ?Fzz ?Nzz ?bzz ?_ ?zzz; (case Fzz => k_asm); (case Nzz => k_asm); (case bzz => exact News.isList (by k_asm) (by k_mem)); (case zzz => first | exact Nat.le_of_ble_eq_true rfl | (simp only [List.size_toArray, sizeLine_eq]; omega))); intro D' c' h' F' N' l1; (try k_lt l1); (try k_sweep)))
  refine con_upd U fun rest hr hin => ?_
  replace hx := hin _ hx hne
  cases hE
  unfold Con
  k_fill
  intro dp un gd cn cs a ccd cl outer A₀ base h₀ L m s Q E B F X N T hk hd hu ret
  refine wpAny_call ?_
  k_dflt cell_enter
  k_steps
  refine ret _ _ _ _ ⟨_, ⟨rfl, _, TyE.mk _ _ _ _ _ _ _ _ _ _ _ _ _ _ _ _ _ _ _ _ _ _ _ _ _ _ _ _ _ _ _ _ _ _ _, rfl⟩, rfl⟩ (by k_asm) (by k_asm)
theorem rap_con {w : World} {loose : List Str} {mean : ExcName → Option Value} {mg mb : Str → Option Value} {news : List (Addr × Obj)} {d l : Addr} {o : Obj} {ws : List Value} {ns : List Int} {b many : Int} {t3 tm : Tok} {f : Obj → List (Addr × Obj)}
    (hl : (l, W.listOf ws.toArray 0) ∈ news) (hld : l ≠ d) (hI : IntsAre ws ns) (hn : ns.length ≤ 20)
    (ho : Obj.IsDictOf (PySem.strKind PySem.Challenge.rw_rg0005_01.row.prog w) o [(Str.ofString "cells", .ref l), (Str.ofString "beat", .int b t3)])
    (hb : 0 ≤ b) (hb2 : b ≤ 100) (hm : many = 2 ∨ many = 4 ∨ many = 9) (U : UpdF d o news f) :
    Con PySem.Challenge.rw_rg0005_01.row.prog w (KK w.params) VV loose mean mg mb 20 200 226 [.ref d, .int many tm] news
      (fun r news' => ∃ o', ((∃ i t, r = .int i t ∧ 0 ≤ i ∧ i < many) ∧ ∃ t3, Obj.IsDictOf (PySem.strKind PySem.Challenge.rw_rg0005_01.row.prog w) o' [(Str.ofString "cells", .ref l), (Str.ofString "beat", .int (b + 1) t3)]) ∧ news' = f o') := by
  refine con_upd U fun rest hr hin => ?_
  replace hl := hin _ hl hld
  unfold Con
  k_fill
  intro dp un gd cn cs a ccd cl outer A₀ base h₀ L m s Q E B F X N T hk hd hu ret
  replace N : News h₀ L s.heap ((d, o) :: (l, W.listOf ws.toArray 0) :: rest) := newsSub N (by tb_start)
  refine wpAny_call ?_
  k_dflt cell_enter
  k_steps
  all_goals
    refine ret _ _ _ _ ⟨_, ⟨⟨_, _, rfl, ?_, ?_⟩, _, by assumption⟩, rfl⟩ (by k_asm) (newsSub (l := (_, _) :: (l, W.listOf ws.toArray 0) :: rest) (by k_asm) (by tb_start))
    · exact Int.fmod_nonneg_of_pos _ (by omega)
    · exact Int.fmod_lt_of_pos _ (by omega)
end
section
local macro_rules | `(tactic| k_all) => `(tactic| first | assumption | exact all_ne (by assumption))
local macro_rules | `(tactic| k_mem) => `(tactic| assumption)
local macro_rules | `(tactic| tb_start) => `(tactic| first | exact subRfl | exact subNil | (refine' subCons ?sa ?sb; (case sa => k_mem); (case sb => tb_start)) | (refine' subTail ?sc; (case sc => tb_start)))
local macro_rules | `(tactic| tbn_conj) => `(tactic| ((case c1 => k_asm); (case c2 => k_asm); (case c3 => k_asm); (case c4 => k_asm); (case c5 => k_asm); (case c6 => first | exact rfl | assumption); (case c7 => first | k_room | ktr_room); (case c8 => ktr_units)))
theorem subtype_con {w : World} {loose : List Str} {mean : ExcName → Option Value} {mg mb : Str → Option Value} {news : List (Addr × Obj)} {ty con : Value} :
    Con PySem.Challenge.rw_rg0005_01.row.prog w (KK w.params) VV loose mean mg mb 10 100 53 [ty, con] news (fun r news' => NewSub w ty con news r news') := by
  k_with_none
  unfold Con
  k_fill
  intro dp un gd cn cs a ccd cl outer A₀ base h₀ L m s Q E B F X N T hk hd hu ret
  k_dflt (refine' call_cls ?k1 ?k2 ?k3 ?k4 ?k5 ?k6 ?_; (case k1 => k_asm); (case k2 => k_asm); (case k3 => k_asm); (case k4 => k_is); (case k5 => k_is); (case k6 => k_is); k_whole; intro x' d' h' F' N' l1 l2; (try k_lt2 l2); (try k_sweep); cell_enter)
  k_steps
  refine ret _ _ _ _ ⟨⟨_, _, _, rfl, rfl, SubE.mk _ _, l1, l2⟩⟩ (by k_asm) (by k_asm)
theorem whole_con {w : World} {loose : List Str} {mean : ExcName → Option Value} {mg mb : Str → Option Value} {news : List (Addr × Obj)} {ty : Value} :
    Con PySem.Challenge.rw_rg0005_01.row.prog w (KK w.params) VV loose mean mg mb 20 200 127 [ty] news (fun r news' => NewSub w ty .none news r news') := by
  unfold Con
  k_fill
  intro dp un gd cn cs a ccd cl outer A₀ base h₀ L m s Q E B F X N T hk hd hu ret
  refine wpAny_call ?_
  k_dflt cell_enter
  k_steps
  refine ret _ _ _ _ ⟨⟨_, _, _, rfl, rfl, SubE.mk _ _, by assumption, by assumption⟩⟩ (by k_asm) (by k_asm)
end
section
local macro_rules | `(tactic| k_all) => `(tactic| first | with_reducible assumption | exact NeAll.out (by with_reducible assumption) | exact LtAll.sub (by with_reducible assumption) (by tb_start))
local macro_rules | `(tactic| k_lt $h) => `(tactic| replace $h := LtAll.mk $h)
local macro_rules | `(tactic| k_lt2 $_h) => `(tactic| skip)
local macro_rules | `(tactic| k_ne) => `(tactic| (refine neN ?_; (try dsimp only); first | with_reducible assumption | exact LtAll.gt (by with_reducible assumption) (by k_mem) | exact LtAll.lt (by with_reducible assumption) (by k_mem) | exact OffO.ne (by with_reducible assumption) (by k_mem) | exact Ne.symm (OffO.ne (by with_reducible assumption) (by k_mem)) | exact OffS.i (by with_reducible assumption) (by k_mem) | exact OffS.c (by with_reducible assumption) (by k_mem) | exact OffS.d (by with_reducible assumption) (by k_mem) | exact Ne.symm (OffS.i (by with_reducible assumption) (by k_mem)) | exact Ne.symm (OffS.c (by with_reducible assumption) (by k_mem)) | exact Ne.symm (OffS.d (by with_reducible assumption) (by k_mem)) | omega))
local macro_rules | `(tactic| tbn_conj) => `(tactic| ((case c1 => k_asm); (case c2 => k_asm); (case c3 => k_asm); (case c4 => k_asm); (case c5 => k_asm); (case c6 => first | exact rfl | assumption); (case c7 => first | k_room | ktr_room); (case c8 => ktr_units)))
section
local macro_rules | `(tactic| k_mem) => `(tactic| ((fail_if_success (refine' List.Mem.tail _ ?_)); first | exact memOf (by with_reducible assumption) | with_reducible assumption))
local macro_rules | `(tactic| tb_start) => `(tactic| first | exact subRfl | exact subNil | (refine' subCons ?sa ?sb; (case sa => k_mem); (case sb => tb_start)) | (refine' subTail ?sc; (case sc => tb_start)))
local macro_rules | `(tactic| lcg_off) => `(tactic| exact OffR.out (by with_reducible assumption))
local macro_rules | `(tactic| ktu_offI) => `(tactic| (refine' mem_new ?ka ?kb; (case ka => k_mem); (case kb => first | exact LtAll.all2 (by with_reducible assumption) (by k_mem) (by tb_start) | exact OffO.all2 (by with_reducible assumption) (by k_mem) (by tb_start))))
inductive ArrX (w : World) (K0 K1 K2 K3 : Addr) (ns : List (Addr × Obj)) (num : Int) (par : Value) : Addr → List Int → Int → Prop
  | mk {x dx ops li c : Addr} {es : List DictEntry} {oo : Obj} {js : List Int} {p : Int} (hx : (x, instObj 32 dx) ∈ ns) (hd : (dx, dictOf es 24) ∈ ns) (hE : TyE w (Str.ofString "array") num par .none .none (.ref li) (.ref c) ops es)
      (hq : (ops, oo) ∈ ns) (h1 : 1 < ops) (ho : Obj.IsDictOf (PySem.strKind PySem.Challenge.rw_rg0005_01.row.prog w) oo []) (hm : Marks w K0 K1 K2 K3 ns li js) (hc : CompAt w K0 K1 K2 K3 ns c p) : ArrX w K0 K1 K2 K3 ns num par x js p
inductive RowX (w : World) (K0 K1 K2 K3 : Addr) (ns : List (Addr × Obj)) (num : Int) : Addr → Addr → List Int → Int → Prop
  | mk {tu x ix : Addr} {js : List Int} {p b c : Int} {t t' : Tok} {n : Nat} (ht : (tu, ({ cls := .type "tuple", data := .seq #[.ref x, .ref ix, .int b t, .int c t'] n } : Obj)) ∈ ns) (hi : Ints ns ix js) (ha : ArrX w K0 K1 K2 K3 ns num .none x js p)
      (hb : b = big p) (hc : c = cls p) : RowX w K0 K1 K2 K3 ns num tu x js p
def RowRes (w : World) (K0 K1 K2 K3 : Addr) (l : Addr) (num b : Int) (r : Value) (o' : Obj) (ns : List (Addr × Obj)) : Prop :=
  ∃ tu x js p b' t', r = .ref tu ∧ RowX w K0 K1 K2 K3 ns num tu x js p ∧ Obj.IsDictOf (PySem.strKind PySem.Challenge.rw_rg0005_01.row.prog w) o' [(Str.ofString "cells", .ref l), (Str.ofString "beat", .int b' t')] ∧ 0 ≤ b' ∧ b' ≤ b + 5
theorem row_finX {w : World} {K0 K1 K2 K3 l : Addr} {num b b' : Int} {t' : Tok} {d tu x : Addr} {o o' : Obj} {rest lg : List (Addr × Obj)} {js : List Int} {p : Int} {h₀ h : Heap} {L : Addr} {C : Prop} (N : News h₀ L h lg) (hd : (d, o') ∈ lg) (hr : ∀ p ∈ rest, p ∈ lg)
    (ho : Obj.IsDictOf (PySem.strKind PySem.Challenge.rw_rg0005_01.row.prog w) o' [(Str.ofString "cells", .ref l), (Str.ofString "beat", .int b' t')]) (h0 : 0 ≤ b') (h5 : b' ≤ b + 5) (hR : RowX w K0 K1 K2 K3 (newOf ((d, o) :: rest) lg) num tu x js p)
    (k : ∀ ns, RowRes w K0 K1 K2 K3 l num b (.ref tu) o' ns → (∀ q ∈ ns, ∀ p ∈ (d, o) :: rest, p.1 ≠ q.1) → News h₀ L h ((d, o') :: (rest ++ ns)) → C) : C :=
  k (newOf ((d, o) :: rest) lg) ⟨tu, x, js, p, b', t', rfl, hR, ho, h0, h5⟩ (fun _ hq => (of_new hq).2) fun q hq => by
    rcases List.mem_cons.mp hq with rfl | hq
    · exact N _ hd
    · rcases List.mem_append.mp hq with hq | hq
      · exact N _ (hr _ hq)
      · exact N _ (of_new hq).1
theorem ops_gt {a b c : Addr} (h : a < b) (k : b < c) : 1 < c := Nat.lt_of_le_of_lt (Nat.succ_le_of_lt (Nat.lt_of_le_of_lt (Nat.zero_le a) h)) k
inductive IntsE : Obj → List Int → Prop
  | one {i : Int} {t : Tok} {n : Nat} : IntsE (W.listOf #[.int i t] n) [i]
  | two {i i' : Int} {t t' : Tok} {n : Nat} : IntsE (W.listOf #[.int i t, .int i' t'] n) [i, i']
theorem Ints.of {ns : List (Addr × Obj)} {ix : Addr} {o : Obj} {js : List Int} (h : (ix, o) ∈ ns) (e : IntsE o js) : Ints ns ix js := by
  cases e with
  | one => exact .one h
  | two => exact .two h
inductive MarksE (w : World) (K0 K1 K2 K3 : Addr) (ns : List (Addr × Obj)) : Obj → List Int → Prop
  | one {s : Addr} {i : Int} {n : Nat} (m : MkAt w K0 K1 K2 K3 ns s i) : MarksE w K0 K1 K2 K3 ns (W.listOf #[.ref s] n) [i]
  | two {s s' : Addr} {i i' : Int} {n : Nat} (m : MkAt w K0 K1 K2 K3 ns s i) (m' : MkAt w K0 K1 K2 K3 ns s' i') : MarksE w K0 K1 K2 K3 ns (W.listOf #[.ref s, .ref s'] n) [i, i']
theorem Marks.of {w : World} {K0 K1 K2 K3 : Addr} {ns : List (Addr × Obj)} {li : Addr} {o : Obj} {js : List Int} (h : (li, o) ∈ ns) (e : MarksE w K0 K1 K2 K3 ns o js) : Marks w K0 K1 K2 K3 ns li js := by
  cases e with
  | one m => exact .one h m
  | two m m' => exact .two h m m'
inductive CompE (w : World) (K0 K1 K2 K3 : Addr) : List DictEntry → Int → Prop
  | low {es : List DictEntry} {p : Int} (h3 : SubE w (.ref (kd K0 K1 K2 K3 0)) (bv p) es) (h0 : 0 ≤ p) (h8 : p < 9) (hn : p ≠ 8) : CompE w K0 K1 K2 K3 es p
  | enum {es : List DictEntry} (h3 : SubE w (.ref (kd K0 K1 K2 K3 3)) .none es) : CompE w K0 K1 K2 K3 es 8
theorem CompAt.of {w : World} {K0 K1 K2 K3 : Addr} {ns : List (Addr × Obj)} {c dc : Addr} {es : List DictEntry} {p : Int} (h1 : (c, instObj 53 dc) ∈ ns) (h2 : (dc, dictOf es 2) ∈ ns) (e : CompE w K0 K1 K2 K3 es p) : CompAt w K0 K1 K2 K3 ns c p := by
  cases e with
  | low h3 h0 h8 hn => exact .low h1 h2 h3 h0 (by omega)
  | enum h3 => exact .enum h1 h2 h3
theorem big_o {p : Int} (h : p ≠ 8) : 0 = big p := (if_neg h).symm
theorem big_8 : (3 : Int) = big 8 := rfl
theorem cls_8 : (0 : Int) = cls 8 := by decide
theorem cls_2 {p : Int} (h : p = 2) : 1 = cls p := by subst h; decide
theorem cls_6 {p : Int} (h : p = 6) : 5 = cls p := by subst h; decide
theorem cls_o {p : Int} (h2 : ¬p = 2) (h6 : ¬p = 6) (h8 : p ≠ 8) : p = cls p := by simp [cls, h2, h6, h8]
theorem row_con {w : World} {loose : List Str} {mean : ExcName → Option Value} {mg mb : Str → Option Value} {news : List (Addr × Obj)} {d l k K0 K1 K2 K3 : Addr} {o : Obj} {ws : List Value} {ns : List Int} {b num : Int} {nm : Str} {t3 tm tn : Tok} {nk : Nat} {f : Obj → List (Addr × Obj)}
    (hl : (l, W.listOf ws.toArray 0) ∈ news) (hld : l ≠ d) (hI : IntsAre ws ns) (hn : ns.length ≤ 20)
    (ho : Obj.IsDictOf (PySem.strKind PySem.Challenge.rw_rg0005_01.row.prog w) o [(Str.ofString "cells", .ref l), (Str.ofString "beat", .int b t3)])
    (hb : 0 ≤ b) (hb2 : b ≤ 50) (hk : (k, W.listOf #[.ref K0, .ref K1, .ref K2, .ref K3] nk) ∈ news) (hkd : k ≠ d) (U : UpdF d o news f) :
    Con PySem.Challenge.rw_rg0005_01.row.prog w (KK w.params) VV loose mean mg mb 50 500 231 [.ref d, .ref k, .str nm tm, .int num tn] news (fun r news' => ∃ o' ns', RowRes w K0 K1 K2 K3 l num b r o' ns' ∧ (∀ q ∈ ns', ∀ p ∈ news, p.1 ≠ q.1) ∧ news' = f o' ++ ns') := by
  k_with_none
  (k_with "call ref" => (k_here; (with_reducible show wpAny _ _ (call (Value.ref 53) _) _ _ _); k_dflt (refine' Con.use subtype_con ?c1 ?c2 ?c3 ?c4 ?c5 ?c6 ?c7 ?c8 ?_; tbn_conj; k_whole); intro r' nw' h' tk' hR' F' N'; obtain ⟨⟨x', dx', es', hr', hn', hE', l1, l2⟩⟩ := hR'; subst hr'; subst hn'; (replace l1 := LtAll.mk l1); (have lx := LtAll.cons (o := dictOf es' 2) l1 l2); (have l1t := LtAll.ne l1); (iterate 25 (try replace l1t := l1t.tail)); (try k_sweep)))
  (k_with "call ref" => (k_here; (with_reducible show wpAny _ _ (call (Value.ref 127) _) _ _ _); k_dflt (refine' Con.use whole_con ?c1 ?c2 ?c3 ?c4 ?c5 ?c6 ?c7 ?c8 ?_; tbn_conj; k_whole); intro r' nw' h' tk' hR' F' N'; obtain ⟨⟨x', dx', es', hr', hn', hE', l1, l2⟩⟩ := hR'; subst hr'; subst hn'; (replace l1 := LtAll.mk l1); (have lx := LtAll.cons (o := dictOf es' 2) l1 l2); (have l1t := LtAll.ne l1); (iterate 25 (try replace l1t := l1t.tail)); (try k_sweep)))
  (k_with "call ref" => (k_here; (with_reducible show wpAny _ _ (call (Value.ref 85) _) _ _ _); k_dflt (refine' Con.use (array_type_con ?a1zz ?a2zz) ?c1 ?c2 ?c3 ?c4 ?c5 ?c6 ?c7 ?c8 ?_; tbn_conj; (case a1zz => k_mem); (case a2zz => exact Nat.le_of_ble_eq_true rfl); k_whole); intro r' nw' h' tk' hR' F' N'; obtain ⟨⟨x', dx', ops', li', n', es', oo', hr', hn', hE', ho', l1, l2, l3, l4⟩⟩ := hR'; subst hr'; subst hn'; (replace l1 := LtAll.mk l1); (have lx := LtAll.cons (o := dictOf es' 24) l1 l2); (have lo := LtAll.cons (o := instObj 32 dx') lx l3); (have ll := LtAll.cons (o := oo') lo l4); (have l1t := LtAll.ne l1); (iterate 25 (try replace l1t := l1t.tail)); (try k_sweep)))
  (k_with "call ref" => (k_here; (with_reducible show wpAny _ _ (call (Value.ref 99) _) _ _ _); k_dflt (refine' Con.use (numbered_con ?a1zz ?a2zz ?a3zz ?a4zz) ?c1 ?c2 ?c3 ?c4 ?c5 ?c6 ?c7 ?c8 ?_; tbn_conj; (case a1zz => k_mem); (case a2zz => k_ne); (case a4zz => k_updF); (case a3zz => assumption); k_whole); intro r' nw' h' tk' hR' F' N'; obtain ⟨o', ⟨hr', es', hE', ho'⟩, hn'⟩ := hR'; subst hr'; subst ho'; subst hn'; (try dsimp only at N'); (try k_sweep)))
  (k_with "call ref" => (k_here; (with_reducible show wpAny _ _ (call (Value.ref 226) _) _ _ _); k_dflt (refine' Con.use (rap_con (l := _) (ws := _) (ns := _) ?a1zz ?a2zz ?a3zz ?a4zz ?a5zz ?a6zz ?a7zz ?a8zz ?a9zz) ?c1 ?c2 ?c3 ?c4 ?c5 ?c6 ?c7 ?c8 ?_; tbn_conj; (case a9zz => k_updF); (case a5zz => assumption); (case a1zz => k_mem); (case a2zz => k_ne); (case a3zz => assumption); (case a4zz => first | assumption | omega); (case a6zz => omega); (case a7zz => omega); (case a8zz => omega); k_whole); intro r' nw' h' tk' hR' F' N'; obtain ⟨o', ⟨⟨i', t', hr', i0', i1'⟩, t3', hd'⟩, hn'⟩ := hR'; subst hr'; subst hn'; (try dsimp only at N'); (try k_sweep)))
  (k_with "subscriptTail" => (k_here; (with_reducible show wpAny _ _ (subscriptTail _ _ (Value.ref _) (Value.int _ _)) _ _ _); k_dflt (first | (refine' kinds_item ?Nzz ?mzz ?azz ?bzz ?_; (case Nzz => k_asm); (case mzz => k_mem); (case azz => omega); (case bzz => omega); k_whole) | (refine' bounds_item ?Fzz ?Xzz ?lzz ?azz ?bzz ?_; (case Fzz => k_asm); (case Xzz => k_asm); (case lzz => k_is); (case azz => omega); (case bzz => omega); k_whole))))
  (k_with "call type:range" => (k_here; (with_reducible show wpAny _ _ (call (Value.type "range") [Value.int (1 + _) _]) _ _ _); (refine range_12 (by omega) (by omega) ?_ ?_ <;> intro hi01)))
  (k_with "CompSrc" => (k_here; k_dflt (first | (refine LCg.CompSrc.ledger (by rfl) (by k_asm) (by k_asm) (by k_mem) (by first | size_fits | exact Nat.le_of_ble_eq_true rfl) ?_; intro g'; lcg_lit) | (refine LCg.CompSrc.range (by rfl) (by k_asm) (by k_asm) (by assumption) (by first | decide | rfl) (by first | rfl | decide) (by first | size_fits | exact Nat.le_of_ble_eq_true rfl) ?_; intro g'; lcg_lit))))
  (k_with "CompRest" => (with_unfolding_all first | (refine LCg.CompRest.succ ?_; intro v' I' oI' C' oC' D' m' h' tk' E' hv' hC' hx' F' N' off' ne'; (first | lcg_open hv' | (obtain ⟨t9', hv9'⟩ := hv'; subst hv9')); (have off0 := OffR.mk off'); (replace off' := OffS.mk off'); (iterate 25 (try replace off0 := off0.tail)); clear ne') | refine LCg.CompRest.zero ?_))
  (k_with "CompEnd" => (k_dflt (first | (refine' compEnd0 ?Fzz ?Nzz ?offzz ?Szz ?_; (case Fzz => k_asm); (case Nzz => k_asm); (case offzz => lcg_off); (case Szz => lcg_src)) | (refine' compEnd2 ?Fzz ?Nzz ?offzz ?Szz ?_; (case Fzz => k_asm); (case Nzz => k_asm); (case offzz => lcg_off); (case Szz => lcg_src)))))
  (k_with "FinA" => ((unfold LCg.FinA); intro D' h' tk' F' N' o1'; (replace o1' := OffO.mk o1'); (try simp only [List.nil_append, List.cons_append] at N'); (try dsimp only)))
  (k_with "FinE" => ((unfold LCg.FinE); intro D' h' tk' F' N' o1'; (replace o1' := OffO.mk o1'); (try simp only [List.nil_append, List.cons_append] at N'); (try dsimp only)))
  refine con_updN U fun rest hr hin => ?_
  replace hl := hin _ hl hld
  replace hk := hin _ hk hkd
  clear U hin
  unfold Con
  k_fill
  intro dp un gd cn cs a ccd cl outer A₀ base h₀ L m s Q E B F X N T hcs hd hu ret
  refine wpAny_call ?_
  k_dflt (refine' code_defC ?k1 ?k2 ?k3 ?k4 ?k5 ?kA ?kF ?kK ?k6 ?k7 ?k8 ?k9 ?kB ?kD ?_ ?c2 ?c3 ?c4; (case kA => exact rfl); (case kF => exact rfl); (case kK => assumption); (case k1 => k_asm); (case k2 => k_asm); (case k3 => k_asm); (case k4 => k_asm); (case k5 => k_asm); (case k6 => k_is); (case k7 => k_is); (case k8 => k_room); (case k9 => exact BindsTo.of_eq rfl); (case kB => exact rfl); (case kD => decide +kernel); (case c2 => exact rfl); (case c3 => exact rfl); (case c4 => exact rfl); k_whole; intro g' L' h' tk' cells' FG' F' N' Y' B' X' T' l1; (have lc1 := LtAll.mk (all_succ l1)); (have lc2 := LtAll.cons (o := default) lc1 (Nat.lt_succ_self (L' + 1))); (replace l1 := LtAll.mk l1); (have l1t := LtAll.ne l1); (iterate 25 (try replace l1t := l1t.tail)); k_cells Y'; (try simp only [List.cons_append, List.nil_append] at N'); (try dsimp only); (try k_lift B'); (try k_fold))
  k_steps
  all_goals first | (exfalso; omega) | skip
  all_goals
    refine' row_finX (d := d) (o := o) (rest := rest) ?N ?hd ?hr ?ho ?h0 ?h5 ?hR (fun nw hR hlt N1 => ret _ _ _ _ ⟨_, nw, hR, hlt, rfl⟩ ?F N1)
    case N => k_asm
    case hd => k_mem
    case hr => tb_start
    case ho => with_reducible assumption
    case h0 => omega
    case h5 => omega
    case F => k_asm
    case hR =>
      refine' RowX.mk ?ht ?hi ?ha ?b ?c
      case ht => ktu_offI
      case hi =>
        refine' Ints.of ?ki ?ke
        case ki => ktu_offI
        case ke => (first | exact IntsE.one | exact IntsE.two)
      case ha =>
        refine' ArrX.mk ?hx ?hd ?hE ?hq ?h1 ?ho ?hm ?hc
        case hx => ktu_offI
        case hd => ktu_offI
        case hE => with_reducible assumption
        case hq => ktu_offI
        case h1 => (refine' ops_gt ?ha ?hb; (case hb => with_reducible assumption); (case ha => with_reducible assumption))
        case ho => with_reducible assumption
        case hm =>
          refine' Marks.of ?kh ?ke
          case kh => ktu_offI
          case ke => first | (refine' MarksE.one ?m; (case m => (refine' MkAt.mk ?h1 ?h2 ?h3 ?h4 ?h5; (case h1 => ktu_offI); (case h2 => ktu_offI); (case h3 => with_reducible assumption); (case h4 => with_reducible assumption); (case h5 => with_reducible assumption)))) | (refine' MarksE.two ?m ?m'; (case m => (refine' MkAt.mk ?h1 ?h2 ?h3 ?h4 ?h5; (case h1 => ktu_offI); (case h2 => ktu_offI); (case h3 => with_reducible assumption); (case h4 => with_reducible assumption); (case h5 => with_reducible assumption))); (case m' => (refine' MkAt.mk ?h1 ?h2 ?h3 ?h4 ?h5; (case h1 => ktu_offI); (case h2 => ktu_offI); (case h3 => with_reducible assumption); (case h4 => with_reducible assumption); (case h5 => with_reducible assumption))))
        case hc =>
          refine' CompAt.of ?h1 ?h2 ?ke
          case h1 => ktu_offI
          case h2 => ktu_offI
          case ke => (first | exact CompE.enum (by with_reducible assumption) | exact CompE.low (by with_reducible assumption) (by with_reducible assumption) (by with_reducible assumption) (by with_reducible assumption))
      case b => (first | exact big_8 | exact big_o (by with_reducible assumption))
      case c => (first | exact cls_8 | exact cls_2 (by with_reducible assumption) | exact cls_6 (by with_reducible assumption) | exact cls_o (by with_reducible assumption) (by with_reducible assumption) (by with_reducible assumption))
end
section
local macro_rules | `(tactic| k_mem) => `(tactic| first | exact memOf (by with_reducible assumption) | with_reducible assumption)
local macro_rules | `(tactic| tb_start) => `(tactic| first | exact subRfl | exact subNil | (refine' subCons ?sa ?sb; (case sa => k_mem); (case sb => tb_start)) | (refine' subTail ?sc; (case sc => tb_start)))
section
local macro_rules | `(tactic| k_get) => `(tactic| with_reducible assumption)
theorem same_con {w : World} {loose : List Str} {mean : ExcName → Option Value} {mg mb : Str → Option Value} {news : List (Addr × Obj)} {x1 d1 : Addr} {e1 : List DictEntry} {x2 d2 : Addr} {e2 : List DictEntry} {k1 k2 : Str} {n1 n2 : Int} {p1 l1 h1 i1 c1 p2 l2 h2 i2 c2 : Value} (hx1 : (x1, instObj 32 d1) ∈ news) (hd1 : (d1, dictOf e1 24) ∈ news) (hE1 : TyG k1 n1 p1 l1 h1 i1 c1 e1) (hx2 : (x2, instObj 32 d2) ∈ news) (hd2 : (d2, dictOf e2 24) ∈ news) (hE2 : TyG k2 n2 p2 l2 h2 i2 c2 e2) :
    Con PySem.Challenge.rw_rg0005_01.row.prog w (KK w.params) VV loose mean mg mb 20 200 106 [.ref x1, .ref x2] news (fun r news' => r = .bool (decide (n1 = n2)) ∧ news' = news) := by
  k_with_none
  obtain ⟨tn1, hn1⟩ := hE1.number
  obtain ⟨tn2, hn2⟩ := hE2.number
  unfold Con
  k_fill
  intro dp un gd cn cs a ccd cl outer A₀ base h₀ L m s Q E B F X N T hk hd hu ret
  refine wpAny_call ?_
  k_dflt cell_enter
  k_steps
  refine ret _ _ _ _ ⟨?_, rfl⟩ (by k_asm) (by k_asm)
  rfl
theorem numeric_int {w : World} {loose : List Str} {mean : ExcName → Option Value} {mg mb : Str → Option Value} {news : List (Addr × Obj)} {x1 d1 : Addr} {e1 : List DictEntry} {n1 : Int} {p1 l1 h1 i1 c1 : Value} (hx1 : (x1, instObj 32 d1) ∈ news) (hd1 : (d1, dictOf e1 24) ∈ news) (hE1 : TyG (Str.ofString "int") n1 p1 l1 h1 i1 c1 e1) :
    Con PySem.Challenge.rw_rg0005_01.row.prog w (KK w.params) VV loose mean mg mb 20 200 120 [.ref x1] news (fun r news' => r = .bool true ∧ news' = news) := by
  obtain ⟨tk1, hk1⟩ := hE1.kind
  unfold Con
  k_fill
  intro dp un gd cn cs a ccd cl outer A₀ base h₀ L m s Q E B F X N T hk hd hu ret
  refine wpAny_call ?_
  k_dflt cell_enter
  k_steps
  all_goals first | exact ret _ _ _ _ ⟨rfl, rfl⟩ (by k_asm) (by k_asm)
theorem numeric_mod {w : World} {loose : List Str} {mean : ExcName → Option Value} {mg mb : Str → Option Value} {news : List (Addr × Obj)} {x1 d1 : Addr} {e1 : List DictEntry} {n1 : Int} {p1 l1 h1 i1 c1 : Value} (hx1 : (x1, instObj 32 d1) ∈ news) (hd1 : (d1, dictOf e1 24) ∈ news) (hE1 : TyG (Str.ofString "mod") n1 p1 l1 h1 i1 c1 e1) :
    Con PySem.Challenge.rw_rg0005_01.row.prog w (KK w.params) VV loose mean mg mb 20 200 120 [.ref x1] news (fun r news' => r = .bool true ∧ news' = news) := by
  obtain ⟨tk1, hk1⟩ := hE1.kind
  unfold Con
  k_fill
  intro dp un gd cn cs a ccd cl outer A₀ base h₀ L m s Q E B F X N T hk hd hu ret
  refine wpAny_call ?_
  k_dflt cell_enter
  k_steps
  all_goals first | exact ret _ _ _ _ ⟨rfl, rfl⟩ (by k_asm) (by k_asm)
theorem numeric_enum {w : World} {loose : List Str} {mean : ExcName → Option Value} {mg mb : Str → Option Value} {news : List (Addr × Obj)} {x1 d1 : Addr} {e1 : List DictEntry} {n1 : Int} {p1 l1 h1 i1 c1 : Value} (hx1 : (x1, instObj 32 d1) ∈ news) (hd1 : (d1, dictOf e1 24) ∈ news) (hE1 : TyG (Str.ofString "enum") n1 p1 l1 h1 i1 c1 e1) :
    Con PySem.Challenge.rw_rg0005_01.row.prog w (KK w.params) VV loose mean mg mb 20 200 120 [.ref x1] news (fun r news' => r = .bool false ∧ news' = news) := by
  obtain ⟨tk1, hk1⟩ := hE1.kind
  unfold Con
  k_fill
  intro dp un gd cn cs a ccd cl outer A₀ base h₀ L m s Q E B F X N T hk hd hu ret
  refine wpAny_call ?_
  k_dflt cell_enter
  k_steps
  all_goals first | exact ret _ _ _ _ ⟨rfl, rfl⟩ (by k_asm) (by k_asm)
theorem numeric_array {w : World} {loose : List Str} {mean : ExcName → Option Value} {mg mb : Str → Option Value} {news : List (Addr × Obj)} {x1 d1 : Addr} {e1 : List DictEntry} {n1 : Int} {p1 l1 h1 i1 c1 : Value} (hx1 : (x1, instObj 32 d1) ∈ news) (hd1 : (d1, dictOf e1 24) ∈ news) (hE1 : TyG (Str.ofString "array") n1 p1 l1 h1 i1 c1 e1) :
    Con PySem.Challenge.rw_rg0005_01.row.prog w (KK w.params) VV loose mean mg mb 20 200 120 [.ref x1] news (fun r news' => r = .bool false ∧ news' = news) := by
  obtain ⟨tk1, hk1⟩ := hE1.kind
  unfold Con
  k_fill
  intro dp un gd cn cs a ccd cl outer A₀ base h₀ L m s Q E B F X N T hk hd hu ret
  refine wpAny_call ?_
  k_dflt cell_enter
  k_steps
  all_goals first | exact ret _ _ _ _ ⟨rfl, rfl⟩ (by k_asm) (by k_asm)
end
section
local macro_rules | `(tactic| k_get) => `(tactic| with_reducible assumption)
theorem shown1_con {w : World} {loose : List Str} {mean : ExcName → Option Value} {mg mb : Str → Option Value} {news : List (Addr × Obj)} {x1 d1 : Addr} {e1 : List DictEntry} {k1 : Str} {n1 : Int} {l1 h1 i1 c1 : Value} (hx1 : (x1, instObj 32 d1) ∈ news) (hd1 : (d1, dictOf e1 24) ∈ news) (hE1 : TyG k1 n1 .none l1 h1 i1 c1 e1) :
    Con PySem.Challenge.rw_rg0005_01.row.prog w (KK w.params) VV loose mean mg mb 20 200 187 [.ref x1] news (fun r news' => ∃ D t e, r = .ref D ∧ news' = (D, W.listOf #[.int n1 t] e) :: news ∧ LtAll news D) := by
  k_with_none
  obtain ⟨tn1, hn1⟩ := hE1.number
  have hp1 := hE1.parent
  unfold Con
  k_fill
  intro dp un gd cn cs a ccd cl outer A₀ base h₀ L m s Q E B F X N T hk hd hu ret
  refine wpAny_call ?_
  k_dflt cell_enter
  k_steps
  refine ret _ _ _ _ ⟨_, _, _, rfl, rfl, by assumption⟩ (by k_asm) (by k_asm)
theorem shown2_con {w : World} {loose : List Str} {mean : ExcName → Option Value} {mg mb : Str → Option Value} {news : List (Addr × Obj)} {x1 d1 : Addr} {e1 : List DictEntry} {x2 d2 : Addr} {e2 : List DictEntry} {k1 k2 : Str} {n1 n2 : Int} {l1 h1 i1 c1 l2 h2 i2 c2 : Value} (hx1 : (x1, instObj 32 d1) ∈ news) (hd1 : (d1, dictOf e1 24) ∈ news) (hE1 : TyG k1 n1 (.ref x2) l1 h1 i1 c1 e1) (hx2 : (x2, instObj 32 d2) ∈ news) (hd2 : (d2, dictOf e2 24) ∈ news) (hE2 : TyG k2 n2 .none l2 h2 i2 c2 e2) :
    Con PySem.Challenge.rw_rg0005_01.row.prog w (KK w.params) VV loose mean mg mb 20 200 187 [.ref x1] news (fun r news' => ∃ D t t' e, r = .ref D ∧ news' = (D, W.listOf #[.int n1 t, .int n2 t'] e) :: news ∧ LtAll news D) := by
  obtain ⟨tn1, hn1⟩ := hE1.number
  obtain ⟨tn2, hn2⟩ := hE2.number
  have hp1 := hE1.parent
  have hp2 := hE2.parent
  have hv1 := hE1.priv
  have ht1 := hE1.tagged
  unfold Con
  k_fill
  intro dp un gd cn cs a ccd cl outer A₀ base h₀ L m s Q E B F X N T hk hd hu ret
  refine wpAny_call ?_
  k_dflt cell_enter
  k_steps
  refine ret _ _ _ _ ⟨_, _, _, _, rfl, rfl, by assumption⟩ (by k_asm) (by k_asm)
end
section
local macro_rules | `(tactic| k_get) => `(tactic| with_reducible assumption)
theorem told_int {w : World} {loose : List Str} {mean : ExcName → Option Value} {mg mb : Str → Option Value} {news : List (Addr × Obj)} {c dc : Addr} {ec : List DictEntry} {x1 d1 : Addr} {e1 : List DictEntry} {n1 lo hi : Int} {tlo thi : Tok} {p1 i1 c1 : Value} (hc : (c, instObj 53 dc) ∈ news) (hdc : (dc, dictOf ec 2) ∈ news) (hS : SubE w (.ref x1) .none ec) (hx1 : (x1, instObj 32 d1) ∈ news) (hd1 : (d1, dictOf e1 24) ∈ news) (hE1 : TyG (Str.ofString "int") n1 p1 (.int lo tlo) (.int hi thi) i1 c1 e1) :
    Con PySem.Challenge.rw_rg0005_01.row.prog w (KK w.params) VV loose mean mg mb 50 500 194 [.ref c] news (fun r news' => ∃ D t t2 t3 e, r = .ref D ∧ news' = (D, ({ cls := .type "tuple", data := .seq #[.str (Str.ofString "range") t, .int lo t2, .int hi t3] e } : Obj)) :: news ∧ LtAll news D) := by
  k_with_none
  (k_with "exec" => (k_here; (with_reducible show wpAny _ _ (exec (Stmt.While _ _ [] _) _) _ _ _); k_dflt (refine whl_start 100 ?_)))
  (k_with "compareOp In str ref" => (k_here; (with_reducible show wpAny _ _ (compareOp CmpOp.In (Value.str _ _) (Value.ref 15)) _ _ _); k_dflt (refine' scalar_in ?Fzz ?Xzz ?lzz ?izz ?xzz ?_; (case Fzz => k_asm); (case Xzz => k_asm); (case lzz => k_is); (case izz => ((repeat constructor); done)); (case xzz => decide +kernel))))
  obtain ⟨tk1, hk1⟩ := hE1.kind
  have hlo := hE1.low
  have hhi := hE1.high
  have hty := hS.ty
  have hco := hS.con
  unfold Con
  k_fill
  intro dp un gd cn cs a ccd cl outer A₀ base h₀ L m s Q E B F X N T hk hd hu ret
  refine wpAny_call ?_
  k_dflt cell_enter
  k_steps
  refine ret _ _ _ _ ⟨_, _, _, _, _, rfl, rfl, by assumption⟩ (by k_asm) (by k_asm)
theorem toldref_int {w : World} {loose : List Str} {mean : ExcName → Option Value} {mg mb : Str → Option Value} {news : List (Addr × Obj)} {c dc b : Addr} {ec : List DictEntry} {x1 d1 : Addr} {e1 : List DictEntry} {n1 : Int} {p1 l1 h1 i1 c1 : Value} (hc : (c, instObj 53 dc) ∈ news) (hdc : (dc, dictOf ec 2) ∈ news) (hS : SubE w (.ref x1) (.ref b) ec) (hx1 : (x1, instObj 32 d1) ∈ news) (hd1 : (d1, dictOf e1 24) ∈ news) (hE1 : TyG (Str.ofString "int") n1 p1 l1 h1 i1 c1 e1) :
    Con PySem.Challenge.rw_rg0005_01.row.prog w (KK w.params) VV loose mean mg mb 50 500 194 [.ref c] news (fun r news' => r = .ref b ∧ news' = news) := by
  obtain ⟨tk1, hk1⟩ := hE1.kind
  have hty := hS.ty
  have hco := hS.con
  unfold Con
  k_fill
  intro dp un gd cn cs a ccd cl outer A₀ base h₀ L m s Q E B F X N T hk hd hu ret
  refine wpAny_call ?_
  k_dflt cell_enter
  k_steps
  refine ret _ _ _ _ ⟨rfl, rfl⟩ (by k_asm) (by k_asm)
theorem told_enum {w : World} {loose : List Str} {mean : ExcName → Option Value} {mg mb : Str → Option Value} {news : List (Addr × Obj)} {c dc : Addr} {ec : List DictEntry} {x1 d1 : Addr} {e1 : List DictEntry} {n1 lo hi : Int} {tlo thi : Tok} {p1 i1 c1 : Value} (hc : (c, instObj 53 dc) ∈ news) (hdc : (dc, dictOf ec 2) ∈ news) (hS : SubE w (.ref x1) .none ec) (hx1 : (x1, instObj 32 d1) ∈ news) (hd1 : (d1, dictOf e1 24) ∈ news) (hE1 : TyG (Str.ofString "enum") n1 p1 (.int lo tlo) (.int hi thi) i1 c1 e1) :
    Con PySem.Challenge.rw_rg0005_01.row.prog w (KK w.params) VV loose mean mg mb 50 500 194 [.ref c] news (fun r news' => ∃ D t t2 t3 e, r = .ref D ∧ news' = (D, ({ cls := .type "tuple", data := .seq #[.str (Str.ofString "range") t, .int lo t2, .int hi t3] e } : Obj)) :: news ∧ LtAll news D) := by
  obtain ⟨tk1, hk1⟩ := hE1.kind
  have hlo := hE1.low
  have hhi := hE1.high
  have hty := hS.ty
  have hco := hS.con
  unfold Con
  k_fill
  intro dp un gd cn cs a ccd cl outer A₀ base h₀ L m s Q E B F X N T hk hd hu ret
  refine wpAny_call ?_
  k_dflt cell_enter
  k_steps
  refine ret _ _ _ _ ⟨_, _, _, _, _, rfl, rfl, by assumption⟩ (by k_asm) (by k_asm)
theorem toldref_enum {w : World} {loose : List Str} {mean : ExcName → Option Value} {mg mb : Str → Option Value} {news : List (Addr × Obj)} {c dc b : Addr} {ec : List DictEntry} {x1 d1 : Addr} {e1 : List DictEntry} {n1 : Int} {p1 l1 h1 i1 c1 : Value} (hc : (c, instObj 53 dc) ∈ news) (hdc : (dc, dictOf ec 2) ∈ news) (hS : SubE w (.ref x1) (.ref b) ec) (hx1 : (x1, instObj 32 d1) ∈ news) (hd1 : (d1, dictOf e1 24) ∈ news) (hE1 : TyG (Str.ofString "enum") n1 p1 l1 h1 i1 c1 e1) :
    Con PySem.Challenge.rw_rg0005_01.row.prog w (KK w.params) VV loose mean mg mb 50 500 194 [.ref c] news (fun r news' => r = .ref b ∧ news' = news) := by
  obtain ⟨tk1, hk1⟩ := hE1.kind
  have hty := hS.ty
  have hco := hS.con
  unfold Con
  k_fill
  intro dp un gd cn cs a ccd cl outer A₀ base h₀ L m s Q E B F X N T hk hd hu ret
  refine wpAny_call ?_
  k_dflt cell_enter
  k_steps
  refine ret _ _ _ _ ⟨rfl, rfl⟩ (by k_asm) (by k_asm)
end
section
local macro_rules | `(tactic| k_get) => `(tactic| with_reducible assumption)
theorem told_any {w : World} {loose : List Str} {mean : ExcName → Option Value} {mg mb : Str → Option Value} {news : List (Addr × Obj)} {c1 dc1 : Addr} {ec1 : List DictEntry} {x1 d1 : Addr} {e1 : List DictEntry} {k : Str} {n1 lo hi : Int} {tlo thi : Tok} {p1 i1 q1 : Value} (hk : k = Str.ofString "int" ∨ k = Str.ofString "enum") (hc1 : (c1, instObj 53 dc1) ∈ news) (hdc1 : (dc1, dictOf ec1 2) ∈ news) (hS1 : SubE w (.ref x1) .none ec1) (hx1 : (x1, instObj 32 d1) ∈ news) (hd1 : (d1, dictOf e1 24) ∈ news) (hE1 : TyG k n1 p1 (.int lo tlo) (.int hi thi) i1 q1 e1) :
    Con PySem.Challenge.rw_rg0005_01.row.prog w (KK w.params) VV loose mean mg mb 50 500 194 [.ref c1] news (fun r news' => ∃ D t t2 t3 e, r = .ref D ∧ news' = (D, ({ cls := .type "tuple", data := .seq #[.str (Str.ofString "range") t, .int lo t2, .int hi t3] e } : Obj)) :: news ∧ LtAll news D) := by
  rcases hk with rfl | rfl
  · exact told_int hc1 hdc1 hS1 hx1 hd1 hE1
  · exact told_enum hc1 hdc1 hS1 hx1 hd1 hE1
theorem toldref_any {w : World} {loose : List Str} {mean : ExcName → Option Value} {mg mb : Str → Option Value} {news : List (Addr × Obj)} {c1 dc1 : Addr} {ec1 : List DictEntry} {x1 d1 : Addr} {e1 : List DictEntry} {k : Str} {b : Addr} {n1 : Int} {p1 l1 h1 i1 q1 : Value} (hk : k = Str.ofString "int" ∨ k = Str.ofString "enum") (hc1 : (c1, instObj 53 dc1) ∈ news) (hdc1 : (dc1, dictOf ec1 2) ∈ news) (hS1 : SubE w (.ref x1) (.ref b) ec1) (hx1 : (x1, instObj 32 d1) ∈ news) (hd1 : (d1, dictOf e1 24) ∈ news) (hE1 : TyG k n1 p1 l1 h1 i1 q1 e1) :
    Con PySem.Challenge.rw_rg0005_01.row.prog w (KK w.params) VV loose mean mg mb 50 500 194 [.ref c1] news (fun r news' => r = .ref b ∧ news' = news) := by
  rcases hk with rfl | rfl
  · exact toldref_int hc1 hdc1 hS1 hx1 hd1 hE1
  · exact toldref_enum hc1 hdc1 hS1 hx1 hd1 hE1
local macro_rules | `(tactic| kt_len) => `(tactic| first | exact News.get (by k_asm) (by k_mem) | exact topGet (by k_asm) (by k_asm) (by with_reducible assumption))
theorem alike_nn {w : World} {loose : List Str} {mean : ExcName → Option Value} {mg mb : Str → Option Value} {news : List (Addr × Obj)} {c1 dc1 : Addr} {ec1 : List DictEntry} {x1 d1 : Addr} {e1 : List DictEntry} {c2 dc2 : Addr} {ec2 : List DictEntry} {x2 d2 : Addr} {e2 : List DictEntry} {ka kb s1 s2 : Str} {b1 b2 : Addr} {n1 n2 lo1 hi1 lo2 hi2 : Int} {u1 v1 w1 u2 v2 w2 tlo1 thi1 tlo2 thi2 : Tok} {p1 l1 h1 i1 q1 p2 l2 h2 i2 q2 : Value} (hka : ka = Str.ofString "int" ∨ ka = Str.ofString "enum") (hkb : kb = Str.ofString "int" ∨ kb = Str.ofString "enum")
    (hc1 : (c1, instObj 53 dc1) ∈ news) (hdc1 : (dc1, dictOf ec1 2) ∈ news) (hS1 : SubE w (.ref x1) .none ec1) (hx1 : (x1, instObj 32 d1) ∈ news) (hd1 : (d1, dictOf e1 24) ∈ news) (hE1 : TyG ka n1 p1 (.int lo1 tlo1) (.int hi1 thi1) i1 q1 e1)
    (hc2 : (c2, instObj 53 dc2) ∈ news) (hdc2 : (dc2, dictOf ec2 2) ∈ news) (hS2 : SubE w (.ref x2) .none ec2) (hx2 : (x2, instObj 32 d2) ∈ news) (hd2 : (d2, dictOf e2 24) ∈ news) (hE2 : TyG kb n2 p2 (.int lo2 tlo2) (.int hi2 thi2) i2 q2 e2)
    : Con PySem.Challenge.rw_rg0005_01.row.prog w (KK w.params) VV loose mean mg mb 100 1000 201 [.ref c1, .ref c2] news (fun r news' => r = .bool (lo1 == lo2 && hi1 == hi2) ∧ news' = news) := by
  k_with_none
  (k_with "call ref" => (k_here; (with_reducible show wpAny _ _ (call (Value.ref 194) _) _ _ _); k_dflt (first | (refine' Con.use (told_any ?k0zz ?a1zz ?a2zz ?a3zz ?a4zz ?a5zz ?a6zz) ?c1 ?c2 ?c3 ?c4 ?c5 ?c6 ?c7 ?c8 ?_; tbn_conj; (case a1zz => k_mem); (case a2zz => k_mem); (case a3zz => with_reducible assumption); (case a4zz => k_mem); (case a5zz => k_mem); (case a6zz => with_reducible assumption); (case k0zz => with_reducible assumption); k_whole; intro r' nw' h' tk' hR' F' N'; obtain ⟨D', t', t2', t3', e', hr', hn', l1⟩ := hR'; subst hr'; subst hn'; (try k_sweep)) | (refine' Con.use (toldref_any ?k0zz ?a1zz ?a2zz ?a3zz ?a4zz ?a5zz ?a6zz) ?c1 ?c2 ?c3 ?c4 ?c5 ?c6 ?c7 ?c8 ?_; tbn_conj; (case a1zz => k_mem); (case a2zz => k_mem); (case a3zz => with_reducible assumption); (case a4zz => k_mem); (case a5zz => k_mem); (case a6zz => with_reducible assumption); (case k0zz => with_reducible assumption); k_whole; intro r' nw' h' tk' hR' F' N'; obtain ⟨hr', hn'⟩ := hR'; subst hr'; subst hn'; (try k_sweep)))))
  (k_with "subscriptTail Name Slice ref ref" => (k_here; (with_reducible show wpAny _ _ (subscriptTail _ (PySem.Expr.Slice none _ none _) (Value.ref _) (Value.ref _)) _ _ _); k_dflt (refine' slice_tuple3 ?Fzz ?Nzz ?tzz ?_; (case Fzz => k_asm); (case Nzz => k_asm); (case tzz => first | exact News.isTup (by k_asm) (by k_mem) | exact tupK (Frag.In.keeps (by k_asm) (Fr.keep (by k_asm))) (by with_reducible assumption))); intro h' F' N'; (try k_sweep)))
  (k_with "subscriptTail" => (k_here; (with_reducible show wpAny _ _ (subscriptTail _ _ (Value.ref _) (Value.int _ _)) _ _ _); k_dflt (refine' topTup_K ?Fzz ?Xzz ?lzz ?azz ?bzz ?czz ?dzz ?_; (case Fzz => k_asm); (case Xzz => k_asm); (case lzz => with_reducible assumption); (case azz => decide); (case bzz => decide); (case czz => rfl); (case dzz => rfl))))
  (k_with "compareOp Eq ref ref" => (k_here; (with_reducible show wpAny _ _ (compareOp CmpOp.Eq (Value.ref _) (Value.ref _)) _ _ _); k_dflt (first | (refine' eq_RR ?g1zz ?g2zz ?uzz ?_; (case g1zz => kt_len); (case g2zz => kt_len); (case uzz => ke_room)) | (refine' eq_RN ?s2zz ?g1zz ?g2zz ?uzz ?_; (case g1zz => kt_len); (case g2zz => kt_len); (case s2zz => with_reducible assumption); (case uzz => ke_room)) | (refine' eq_NR ?s1zz ?g1zz ?g2zz ?uzz ?_; (case g1zz => kt_len); (case g2zz => kt_len); (case s1zz => with_reducible assumption); (case uzz => ke_room)))))
  unfold Con
  k_fill
  intro dp un gd cn cs a ccd cl outer A₀ base h₀ L m s Q E B F X N T hk hd hu ret
  refine wpAny_call ?_
  k_dflt cell_enter
  k_steps
  all_goals first | exact ret _ _ _ _ ⟨rfl, rfl⟩ (by k_asm) (newsSub (by k_asm) (by tb_start))
theorem alike_nR {w : World} {loose : List Str} {mean : ExcName → Option Value} {mg mb : Str → Option Value} {news : List (Addr × Obj)} {c1 dc1 : Addr} {ec1 : List DictEntry} {x1 d1 : Addr} {e1 : List DictEntry} {c2 dc2 : Addr} {ec2 : List DictEntry} {x2 d2 : Addr} {e2 : List DictEntry} {ka kb s1 s2 : Str} {b1 b2 : Addr} {n1 n2 lo1 hi1 lo2 hi2 : Int} {u1 v1 w1 u2 v2 w2 tlo1 thi1 tlo2 thi2 : Tok} {p1 l1 h1 i1 q1 p2 l2 h2 i2 q2 : Value} (hka : ka = Str.ofString "int" ∨ ka = Str.ofString "enum") (hkb : kb = Str.ofString "int" ∨ kb = Str.ofString "enum")
    (hc1 : (c1, instObj 53 dc1) ∈ news) (hdc1 : (dc1, dictOf ec1 2) ∈ news) (hS1 : SubE w (.ref x1) .none ec1) (hx1 : (x1, instObj 32 d1) ∈ news) (hd1 : (d1, dictOf e1 24) ∈ news) (hE1 : TyG ka n1 p1 (.int lo1 tlo1) (.int hi1 thi1) i1 q1 e1)
    (hc2 : (c2, instObj 53 dc2) ∈ news) (hdc2 : (dc2, dictOf ec2 2) ∈ news) (hS2 : SubE w (.ref x2) (.ref b2) ec2) (hb2 : (KK w.params).lookup b2 = some ⟨.type "tuple", none, .seq ([.str (Str.ofString "range") u2, .int lo2 v2, .int hi2 w2] : List Value).toArray 0, #[]⟩) (hx2 : (x2, instObj 32 d2) ∈ news) (hd2 : (d2, dictOf e2 24) ∈ news) (hE2 : TyG kb n2 p2 l2 h2 i2 q2 e2)
    : Con PySem.Challenge.rw_rg0005_01.row.prog w (KK w.params) VV loose mean mg mb 100 1000 201 [.ref c1, .ref c2] news (fun r news' => r = .bool (lo1 == lo2 && hi1 == hi2) ∧ news' = news) := by
  unfold Con
  k_fill
  intro dp un gd cn cs a ccd cl outer A₀ base h₀ L m s Q E B F X N T hk hd hu ret
  refine wpAny_call ?_
  k_dflt cell_enter
  k_steps
  all_goals first | exact ret _ _ _ _ ⟨rfl, rfl⟩ (by k_asm) (newsSub (by k_asm) (by tb_start))
theorem alike_nN {w : World} {loose : List Str} {mean : ExcName → Option Value} {mg mb : Str → Option Value} {news : List (Addr × Obj)} {c1 dc1 : Addr} {ec1 : List DictEntry} {x1 d1 : Addr} {e1 : List DictEntry} {c2 dc2 : Addr} {ec2 : List DictEntry} {x2 d2 : Addr} {e2 : List DictEntry} {ka kb s1 s2 : Str} {b1 b2 : Addr} {n1 n2 lo1 hi1 lo2 hi2 : Int} {u1 v1 w1 u2 v2 w2 tlo1 thi1 tlo2 thi2 : Tok} {p1 l1 h1 i1 q1 p2 l2 h2 i2 q2 : Value} (hka : ka = Str.ofString "int" ∨ ka = Str.ofString "enum") (hkb : kb = Str.ofString "int" ∨ kb = Str.ofString "enum") (hs2 : PyData.strOk s2 = true)
    (hc1 : (c1, instObj 53 dc1) ∈ news) (hdc1 : (dc1, dictOf ec1 2) ∈ news) (hS1 : SubE w (.ref x1) .none ec1) (hx1 : (x1, instObj 32 d1) ∈ news) (hd1 : (d1, dictOf e1 24) ∈ news) (hE1 : TyG ka n1 p1 (.int lo1 tlo1) (.int hi1 thi1) i1 q1 e1)
    (hc2 : (c2, instObj 53 dc2) ∈ news) (hdc2 : (dc2, dictOf ec2 2) ∈ news) (hS2 : SubE w (.ref x2) (.ref b2) ec2) (hb2 : (KK w.params).lookup b2 = some ⟨.type "tuple", none, .seq ([.str (Str.ofString "named") u2, .int lo2 v2, .str s2 w2] : List Value).toArray 0, #[]⟩) (hx2 : (x2, instObj 32 d2) ∈ news) (hd2 : (d2, dictOf e2 24) ∈ news) (hE2 : TyG kb n2 p2 l2 h2 i2 q2 e2)
    : Con PySem.Challenge.rw_rg0005_01.row.prog w (KK w.params) VV loose mean mg mb 100 1000 201 [.ref c1, .ref c2] news (fun r news' => r = .bool false ∧ news' = news) := by
  unfold Con
  k_fill
  intro dp un gd cn cs a ccd cl outer A₀ base h₀ L m s Q E B F X N T hk hd hu ret
  refine wpAny_call ?_
  k_dflt cell_enter
  k_steps
  all_goals first | exact ret _ _ _ _ ⟨rfl, rfl⟩ (by k_asm) (newsSub (by k_asm) (by tb_start))
theorem alike_Rn {w : World} {loose : List Str} {mean : ExcName → Option Value} {mg mb : Str → Option Value} {news : List (Addr × Obj)} {c1 dc1 : Addr} {ec1 : List DictEntry} {x1 d1 : Addr} {e1 : List DictEntry} {c2 dc2 : Addr} {ec2 : List DictEntry} {x2 d2 : Addr} {e2 : List DictEntry} {ka kb s1 s2 : Str} {b1 b2 : Addr} {n1 n2 lo1 hi1 lo2 hi2 : Int} {u1 v1 w1 u2 v2 w2 tlo1 thi1 tlo2 thi2 : Tok} {p1 l1 h1 i1 q1 p2 l2 h2 i2 q2 : Value} (hka : ka = Str.ofString "int" ∨ ka = Str.ofString "enum") (hkb : kb = Str.ofString "int" ∨ kb = Str.ofString "enum")
    (hc1 : (c1, instObj 53 dc1) ∈ news) (hdc1 : (dc1, dictOf ec1 2) ∈ news) (hS1 : SubE w (.ref x1) (.ref b1) ec1) (hb1 : (KK w.params).lookup b1 = some ⟨.type "tuple", none, .seq ([.str (Str.ofString "range") u1, .int lo1 v1, .int hi1 w1] : List Value).toArray 0, #[]⟩) (hx1 : (x1, instObj 32 d1) ∈ news) (hd1 : (d1, dictOf e1 24) ∈ news) (hE1 : TyG ka n1 p1 l1 h1 i1 q1 e1)
    (hc2 : (c2, instObj 53 dc2) ∈ news) (hdc2 : (dc2, dictOf ec2 2) ∈ news) (hS2 : SubE w (.ref x2) .none ec2) (hx2 : (x2, instObj 32 d2) ∈ news) (hd2 : (d2, dictOf e2 24) ∈ news) (hE2 : TyG kb n2 p2 (.int lo2 tlo2) (.int hi2 thi2) i2 q2 e2)
    : Con PySem.Challenge.rw_rg0005_01.row.prog w (KK w.params) VV loose mean mg mb 100 1000 201 [.ref c1, .ref c2] news (fun r news' => r = .bool (lo1 == lo2 && hi1 == hi2) ∧ news' = news) := by
  unfold Con
  k_fill
  intro dp un gd cn cs a ccd cl outer A₀ base h₀ L m s Q E B F X N T hk hd hu ret
  refine wpAny_call ?_
  k_dflt cell_enter
  k_steps
  all_goals first | exact ret _ _ _ _ ⟨rfl, rfl⟩ (by k_asm) (newsSub (by k_asm) (by tb_start))
theorem alike_RR {w : World} {loose : List Str} {mean : ExcName → Option Value} {mg mb : Str → Option Value} {news : List (Addr × Obj)} {c1 dc1 : Addr} {ec1 : List DictEntry} {x1 d1 : Addr} {e1 : List DictEntry} {c2 dc2 : Addr} {ec2 : List DictEntry} {x2 d2 : Addr} {e2 : List DictEntry} {ka kb s1 s2 : Str} {b1 b2 : Addr} {n1 n2 lo1 hi1 lo2 hi2 : Int} {u1 v1 w1 u2 v2 w2 tlo1 thi1 tlo2 thi2 : Tok} {p1 l1 h1 i1 q1 p2 l2 h2 i2 q2 : Value} (hka : ka = Str.ofString "int" ∨ ka = Str.ofString "enum") (hkb : kb = Str.ofString "int" ∨ kb = Str.ofString "enum")
    (hc1 : (c1, instObj 53 dc1) ∈ news) (hdc1 : (dc1, dictOf ec1 2) ∈ news) (hS1 : SubE w (.ref x1) (.ref b1) ec1) (hb1 : (KK w.params).lookup b1 = some ⟨.type "tuple", none, .seq ([.str (Str.ofString "range") u1, .int lo1 v1, .int hi1 w1] : List Value).toArray 0, #[]⟩) (hx1 : (x1, instObj 32 d1) ∈ news) (hd1 : (d1, dictOf e1 24) ∈ news) (hE1 : TyG ka n1 p1 l1 h1 i1 q1 e1)
    (hc2 : (c2, instObj 53 dc2) ∈ news) (hdc2 : (dc2, dictOf ec2 2) ∈ news) (hS2 : SubE w (.ref x2) (.ref b2) ec2) (hb2 : (KK w.params).lookup b2 = some ⟨.type "tuple", none, .seq ([.str (Str.ofString "range") u2, .int lo2 v2, .int hi2 w2] : List Value).toArray 0, #[]⟩) (hx2 : (x2, instObj 32 d2) ∈ news) (hd2 : (d2, dictOf e2 24) ∈ news) (hE2 : TyG kb n2 p2 l2 h2 i2 q2 e2)
    : Con PySem.Challenge.rw_rg0005_01.row.prog w (KK w.params) VV loose mean mg mb 100 1000 201 [.ref c1, .ref c2] news (fun r news' => r = .bool (lo1 == lo2 && hi1 == hi2) ∧ news' = news) := by
  unfold Con
  k_fill
  intro dp un gd cn cs a ccd cl outer A₀ base h₀ L m s Q E B F X N T hk hd hu ret
  refine wpAny_call ?_
  k_dflt cell_enter
  k_steps
  all_goals first | exact ret _ _ _ _ ⟨rfl, rfl⟩ (by k_asm) (newsSub (by k_asm) (by tb_start))
theorem alike_RN {w : World} {loose : List Str} {mean : ExcName → Option Value} {mg mb : Str → Option Value} {news : List (Addr × Obj)} {c1 dc1 : Addr} {ec1 : List DictEntry} {x1 d1 : Addr} {e1 : List DictEntry} {c2 dc2 : Addr} {ec2 : List DictEntry} {x2 d2 : Addr} {e2 : List DictEntry} {ka kb s1 s2 : Str} {b1 b2 : Addr} {n1 n2 lo1 hi1 lo2 hi2 : Int} {u1 v1 w1 u2 v2 w2 tlo1 thi1 tlo2 thi2 : Tok} {p1 l1 h1 i1 q1 p2 l2 h2 i2 q2 : Value} (hka : ka = Str.ofString "int" ∨ ka = Str.ofString "enum") (hkb : kb = Str.ofString "int" ∨ kb = Str.ofString "enum") (hs2 : PyData.strOk s2 = true)
    (hc1 : (c1, instObj 53 dc1) ∈ news) (hdc1 : (dc1, dictOf ec1 2) ∈ news) (hS1 : SubE w (.ref x1) (.ref b1) ec1) (hb1 : (KK w.params).lookup b1 = some ⟨.type "tuple", none, .seq ([.str (Str.ofString "range") u1, .int lo1 v1, .int hi1 w1] : List Value).toArray 0, #[]⟩) (hx1 : (x1, instObj 32 d1) ∈ news) (hd1 : (d1, dictOf e1 24) ∈ news) (hE1 : TyG ka n1 p1 l1 h1 i1 q1 e1)
    (hc2 : (c2, instObj 53 dc2) ∈ news) (hdc2 : (dc2, dictOf ec2 2) ∈ news) (hS2 : SubE w (.ref x2) (.ref b2) ec2) (hb2 : (KK w.params).lookup b2 = some ⟨.type "tuple", none, .seq ([.str (Str.ofString "named") u2, .int lo2 v2, .str s2 w2] : List Value).toArray 0, #[]⟩) (hx2 : (x2, instObj 32 d2) ∈ news) (hd2 : (d2, dictOf e2 24) ∈ news) (hE2 : TyG kb n2 p2 l2 h2 i2 q2 e2)
    : Con PySem.Challenge.rw_rg0005_01.row.prog w (KK w.params) VV loose mean mg mb 100 1000 201 [.ref c1, .ref c2] news (fun r news' => r = .bool false ∧ news' = news) := by
  unfold Con
  k_fill
  intro dp un gd cn cs a ccd cl outer A₀ base h₀ L m s Q E B F X N T hk hd hu ret
  refine wpAny_call ?_
  k_dflt cell_enter
  k_steps
  all_goals first | exact ret _ _ _ _ ⟨rfl, rfl⟩ (by k_asm) (newsSub (by k_asm) (by tb_start))
theorem alike_Nn {w : World} {loose : List Str} {mean : ExcName → Option Value} {mg mb : Str → Option Value} {news : List (Addr × Obj)} {c1 dc1 : Addr} {ec1 : List DictEntry} {x1 d1 : Addr} {e1 : List DictEntry} {c2 dc2 : Addr} {ec2 : List DictEntry} {x2 d2 : Addr} {e2 : List DictEntry} {ka kb s1 s2 : Str} {b1 b2 : Addr} {n1 n2 lo1 hi1 lo2 hi2 : Int} {u1 v1 w1 u2 v2 w2 tlo1 thi1 tlo2 thi2 : Tok} {p1 l1 h1 i1 q1 p2 l2 h2 i2 q2 : Value} (hka : ka = Str.ofString "int" ∨ ka = Str.ofString "enum") (hkb : kb = Str.ofString "int" ∨ kb = Str.ofString "enum") (hs1 : PyData.strOk s1 = true)
    (hc1 : (c1, instObj 53 dc1) ∈ news) (hdc1 : (dc1, dictOf ec1 2) ∈ news) (hS1 : SubE w (.ref x1) (.ref b1) ec1) (hb1 : (KK w.params).lookup b1 = some ⟨.type "tuple", none, .seq ([.str (Str.ofString "named") u1, .int lo1 v1, .str s1 w1] : List Value).toArray 0, #[]⟩) (hx1 : (x1, instObj 32 d1) ∈ news) (hd1 : (d1, dictOf e1 24) ∈ news) (hE1 : TyG ka n1 p1 l1 h1 i1 q1 e1)
    (hc2 : (c2, instObj 53 dc2) ∈ news) (hdc2 : (dc2, dictOf ec2 2) ∈ news) (hS2 : SubE w (.ref x2) .none ec2) (hx2 : (x2, instObj 32 d2) ∈ news) (hd2 : (d2, dictOf e2 24) ∈ news) (hE2 : TyG kb n2 p2 (.int lo2 tlo2) (.int hi2 thi2) i2 q2 e2)
    : Con PySem.Challenge.rw_rg0005_01.row.prog w (KK w.params) VV loose mean mg mb 100 1000 201 [.ref c1, .ref c2] news (fun r news' => r = .bool false ∧ news' = news) := by
  unfold Con
  k_fill
  intro dp un gd cn cs a ccd cl outer A₀ base h₀ L m s Q E B F X N T hk hd hu ret
  refine wpAny_call ?_
  k_dflt cell_enter
  k_steps
  all_goals first | exact ret _ _ _ _ ⟨rfl, rfl⟩ (by k_asm) (newsSub (by k_asm) (by tb_start))
theorem alike_NR {w : World} {loose : List Str} {mean : ExcName → Option Value} {mg mb : Str → Option Value} {news : List (Addr × Obj)} {c1 dc1 : Addr} {ec1 : List DictEntry} {x1 d1 : Addr} {e1 : List DictEntry} {c2 dc2 : Addr} {ec2 : List DictEntry} {x2 d2 : Addr} {e2 : List DictEntry} {ka kb s1 s2 : Str} {b1 b2 : Addr} {n1 n2 lo1 hi1 lo2 hi2 : Int} {u1 v1 w1 u2 v2 w2 tlo1 thi1 tlo2 thi2 : Tok} {p1 l1 h1 i1 q1 p2 l2 h2 i2 q2 : Value} (hka : ka = Str.ofString "int" ∨ ka = Str.ofString "enum") (hkb : kb = Str.ofString "int" ∨ kb = Str.ofString "enum") (hs1 : PyData.strOk s1 = true)
    (hc1 : (c1, instObj 53 dc1) ∈ news) (hdc1 : (dc1, dictOf ec1 2) ∈ news) (hS1 : SubE w (.ref x1) (.ref b1) ec1) (hb1 : (KK w.params).lookup b1 = some ⟨.type "tuple", none, .seq ([.str (Str.ofString "named") u1, .int lo1 v1, .str s1 w1] : List Value).toArray 0, #[]⟩) (hx1 : (x1, instObj 32 d1) ∈ news) (hd1 : (d1, dictOf e1 24) ∈ news) (hE1 : TyG ka n1 p1 l1 h1 i1 q1 e1)
    (hc2 : (c2, instObj 53 dc2) ∈ news) (hdc2 : (dc2, dictOf ec2 2) ∈ news) (hS2 : SubE w (.ref x2) (.ref b2) ec2) (hb2 : (KK w.params).lookup b2 = some ⟨.type "tuple", none, .seq ([.str (Str.ofString "range") u2, .int lo2 v2, .int hi2 w2] : List Value).toArray 0, #[]⟩) (hx2 : (x2, instObj 32 d2) ∈ news) (hd2 : (d2, dictOf e2 24) ∈ news) (hE2 : TyG kb n2 p2 l2 h2 i2 q2 e2)
    : Con PySem.Challenge.rw_rg0005_01.row.prog w (KK w.params) VV loose mean mg mb 100 1000 201 [.ref c1, .ref c2] news (fun r news' => r = .bool false ∧ news' = news) := by
  unfold Con
  k_fill
  intro dp un gd cn cs a ccd cl outer A₀ base h₀ L m s Q E B F X N T hk hd hu ret
  refine wpAny_call ?_
  k_dflt cell_enter
  k_steps
  all_goals first | exact ret _ _ _ _ ⟨rfl, rfl⟩ (by k_asm) (newsSub (by k_asm) (by tb_start))
theorem alike_NN {w : World} {loose : List Str} {mean : ExcName → Option Value} {mg mb : Str → Option Value} {news : List (Addr × Obj)} {c1 dc1 : Addr} {ec1 : List DictEntry} {x1 d1 : Addr} {e1 : List DictEntry} {c2 dc2 : Addr} {ec2 : List DictEntry} {x2 d2 : Addr} {e2 : List DictEntry} {ka kb s1 s2 : Str} {b1 b2 : Addr} {n1 n2 lo1 hi1 lo2 hi2 : Int} {u1 v1 w1 u2 v2 w2 tlo1 thi1 tlo2 thi2 : Tok} {p1 l1 h1 i1 q1 p2 l2 h2 i2 q2 : Value} (hka : ka = Str.ofString "int" ∨ ka = Str.ofString "enum") (hkb : kb = Str.ofString "int" ∨ kb = Str.ofString "enum") (hs1 : PyData.strOk s1 = true) (hs2 : PyData.strOk s2 = true)
    (hc1 : (c1, instObj 53 dc1) ∈ news) (hdc1 : (dc1, dictOf ec1 2) ∈ news) (hS1 : SubE w (.ref x1) (.ref b1) ec1) (hb1 : (KK w.params).lookup b1 = some ⟨.type "tuple", none, .seq ([.str (Str.ofString "named") u1, .int lo1 v1, .str s1 w1] : List Value).toArray 0, #[]⟩) (hx1 : (x1, instObj 32 d1) ∈ news) (hd1 : (d1, dictOf e1 24) ∈ news) (hE1 : TyG ka n1 p1 l1 h1 i1 q1 e1)
    (hc2 : (c2, instObj 53 dc2) ∈ news) (hdc2 : (dc2, dictOf ec2 2) ∈ news) (hS2 : SubE w (.ref x2) (.ref b2) ec2) (hb2 : (KK w.params).lookup b2 = some ⟨.type "tuple", none, .seq ([.str (Str.ofString "named") u2, .int lo2 v2, .str s2 w2] : List Value).toArray 0, #[]⟩) (hx2 : (x2, instObj 32 d2) ∈ news) (hd2 : (d2, dictOf e2 24) ∈ news) (hE2 : TyG kb n2 p2 l2 h2 i2 q2 e2)
    : Con PySem.Challenge.rw_rg0005_01.row.prog w (KK w.params) VV loose mean mg mb 100 1000 201 [.ref c1, .ref c2] news (fun r news' => r = .bool (s1 == s2) ∧ news' = news) := by
  unfold Con
  k_fill
  intro dp un gd cn cs a ccd cl outer A₀ base h₀ L m s Q E B F X N T hk hd hu ret
  refine wpAny_call ?_
  k_dflt cell_enter
  k_steps
  all_goals first | exact ret _ _ _ _ ⟨rfl, rfl⟩ (by k_asm) (newsSub (by k_asm) (by tb_start))
end
section
local macro_rules | `(tactic| k_get) => `(tactic| with_reducible assumption)
theorem eq_str_known {prog : Program} {w : World} {A : Around} {E : Value → Shared → Prop} {s : Shared} {Q : Value → Shared → Prop} {x y : Str} {t u : Tok} {b : Bool} (h : (x == y) = b) (q : Q (.bool b) s) : wpAny (model prog w) A (compareOp .Eq (.str x t) (.str y u)) Q E s :=
  PyProof.Rows.eq_str (by rw [h]; exact q)
def NumK (k : Str) (b : Bool) : Prop := ((k = Str.ofString "int" ∨ k = Str.ofString "mod") ∧ b = true) ∨ ((k = Str.ofString "enum" ∨ k = Str.ofString "array") ∧ b = false)
theorem numeric_any {w : World} {loose : List Str} {mean : ExcName → Option Value} {mg mb : Str → Option Value} {news : List (Addr × Obj)} {x1 d1 : Addr} {e1 : List DictEntry} {k : Str} {b : Bool} {n1 : Int} {p1 l1 h1 i1 q1 : Value} (hk : NumK k b) (hx1 : (x1, instObj 32 d1) ∈ news) (hd1 : (d1, dictOf e1 24) ∈ news) (hE1 : TyG k n1 p1 l1 h1 i1 q1 e1) :
    Con PySem.Challenge.rw_rg0005_01.row.prog w (KK w.params) VV loose mean mg mb 20 200 120 [.ref x1] news (fun r news' => r = .bool b ∧ news' = news) := by
  rcases hk with ⟨rfl | rfl, rfl⟩ | ⟨rfl | rfl, rfl⟩
  · exact numeric_int hx1 hd1 hE1
  · exact numeric_mod hx1 hd1 hE1
  · exact numeric_enum hx1 hd1 hE1
  · exact numeric_array hx1 hd1 hE1
local macro_rules | `(tactic| lcg_off) => `(tactic| exact OffR.out (by with_reducible assumption))
theorem in_known {prog : Program} {w : World} {A : Around} {E : Value → Shared → Prop} {s : Shared} {Q : Value → Shared → Prop} {l : Addr} {items : Array Value} {ys : List Int} {x : Int} {u : Tok} {b : Bool} (hl : s.heap.IsList l items) (hi : IntsAre items.toList ys) (hb : (ys.any fun y => y == x) = b) (h : Q (.bool b) s) :
    wpAny (model prog w) A (compareOp .In (.int x u) (.ref l)) Q E s := in_list_ints hl hi (by rw [hb]; exact h)
theorem ne_nil {prog : Program} {w : World} {A : Around} {E : Value → Shared → Prop} {s : Shared} {Q : Value → Shared → Prop} {a b : Addr} {xs : List Value} {y : Int} {ys : List Int} (ha : s.heap.IsList a xs.toArray) (hb : s.heap.IsList b (([] : List Value).toArray)) (hi : IntsAre xs (y :: ys)) (hu : A.units + 64 < cLine) (h : Q (.bool true) s) :
    wpAny (model prog w) A (compareOp .NotEq (.ref a) (.ref b)) Q E s := ke_ne_ints ha hb hi IntsAre.nil hu (by simpa using h)
theorem ic_tt {w : World} {loose : List Str} {mean : ExcName → Option Value} {mg mb : Str → Option Value} {news : List (Addr × Obj)} {x1 d1 : Addr} {e1 : List DictEntry} {x2 d2 : Addr} {e2 : List DictEntry} {k1 k2 k3 k4 : Str} {n1 n2 n3 n4 : Int} {l1 h1 i1 q1 l2 h2 i2 q2 l3 h3 i3 q3 l4 h4 i4 q4 p1 p2 : Value} (hb1 : NumK k1 true) (hb2 : NumK k2 true) (hc1 : (k1 == Str.ofString "class") = false) (hc2 : (k2 == Str.ofString "class") = false)  
    (hx1 : (x1, instObj 32 d1) ∈ news) (hd1 : (d1, dictOf e1 24) ∈ news) (hE1 : TyG k1 n1 p1 l1 h1 i1 q1 e1) (hx2 : (x2, instObj 32 d2) ∈ news) (hd2 : (d2, dictOf e2 24) ∈ news) (hE2 : TyG k2 n2 p2 l2 h2 i2 q2 e2) :
    Con PySem.Challenge.rw_rg0005_01.row.prog w (KK w.params) VV loose mean mg mb 100 1000 211 [.ref x1, .ref x2] news (fun r news' => r = .bool true ∧ news' = news) := by
  k_with_none
  (k_with "call ref" => (k_here; (with_reducible show wpAny _ _ (call (Value.ref 120) _) _ _ _); k_dflt (refine' Con.use (numeric_any ?k0zz ?a1zz ?a2zz ?a3zz) ?c1 ?c2 ?c3 ?c4 ?c5 ?c6 ?c7 ?c8 ?_; tbn_conj; (case a1zz => k_mem); (case a2zz => k_mem); (case a3zz => with_reducible assumption); (case k0zz => with_reducible assumption); k_whole); intro r' nw' h' tk' hR' F' N'; obtain ⟨hr', hn'⟩ := hR'; subst hr'; subst hn'; (try k_sweep)))
  (k_with "call ref" => (k_here; (with_reducible show wpAny _ _ (call (Value.ref 187) _) _ _ _); k_dflt (refine' Con.use (shown1_con ?a1zz ?a2zz ?a3zz) ?c1 ?c2 ?c3 ?c4 ?c5 ?c6 ?c7 ?c8 ?_; tbn_conj; (case a1zz => k_mem); (case a2zz => k_mem); (case a3zz => with_reducible assumption); k_whole); intro r' nw' h' tk' hR' F' N'; obtain ⟨D', t', e', hr', hn', l1⟩ := hR'; subst hr'; subst hn'; (try k_sweep)))
  (k_with "call ref" => (k_here; (with_reducible show wpAny _ _ (call (Value.ref 187) _) _ _ _); k_dflt (refine' Con.use (shown2_con ?a1zz ?a2zz ?a3zz ?a4zz ?a5zz ?a6zz) ?c1 ?c2 ?c3 ?c4 ?c5 ?c6 ?c7 ?c8 ?_; tbn_conj; (case a1zz => k_mem); (case a2zz => k_mem); (case a3zz => with_reducible assumption); (case a4zz => k_mem); (case a5zz => k_mem); (case a6zz => with_reducible assumption); k_whole); intro r' nw' h' tk' hR' F' N'; obtain ⟨D', t', t2', e', hr', hn', l1⟩ := hR'; subst hr'; subst hn'; (try k_sweep)))
  (k_with "compareOp Eq str str" => (k_here; k_dflt (refine' eq_str_known ?hzz ?_; (case hzz => with_reducible assumption))))
  (k_with "CompSrc" => (k_here; k_dflt (first | (refine LCg.CompSrc.ledger (by rfl) (by k_asm) (by k_asm) (by k_mem) (by first | size_fits | exact Nat.le_of_ble_eq_true rfl) ?_; intro g'; lcg_lit) | (refine LCg.CompSrc.range (by rfl) (by k_asm) (by k_asm) (by assumption) (by first | decide | rfl) (by first | rfl | decide) (by first | size_fits | exact Nat.le_of_ble_eq_true rfl) ?_; intro g'; lcg_lit))))
  (k_with "CompRest" => (with_unfolding_all first | (refine LCg.CompRest.succ ?_; intro v' I' oI' C' oC' D' m' h' tk' E' hv' hC' hx' F' N' off' ne'; (first | lcg_open hv' | (obtain ⟨t9', hv9'⟩ := hv'; subst hv9')); (have off0 := OffR.mk off'); (replace off' := OffS.mk off'); (iterate 25 (try replace off0 := off0.tail)); clear ne') | refine LCg.CompRest.zero ?_))
  (k_with "CompEnd" => (k_dflt (first | (refine' compEnd0 ?Fzz ?Nzz ?offzz ?Szz ?_; (case Fzz => k_asm); (case Nzz => k_asm); (case offzz => lcg_off); (case Szz => lcg_src)) | (refine' compEnd2 ?Fzz ?Nzz ?offzz ?Szz ?_; (case Fzz => k_asm); (case Nzz => k_asm); (case offzz => lcg_off); (case Szz => lcg_src)))))
  (k_with "FinA" => ((unfold LCg.FinA); intro D' h' tk' F' N' o1'; (replace o1' := OffO.mk o1'); (try simp only [List.nil_append, List.cons_append] at N'); (try dsimp only)))
  (k_with "FinE" => ((unfold LCg.FinE); intro D' h' tk' F' N' o1'; (replace o1' := OffO.mk o1'); (try simp only [List.nil_append, List.cons_append] at N'); (try dsimp only)))
  (k_with "CompRestT" => (with_unfolding_all first | (refine LCt.CompRestT.succ ?_; intro v' I' oI' C' oC' D' m' h' tk' E' hv' hC' hx' F' N' off' ne'; (first | lcg_open hv' | (obtain ⟨t9', hv9'⟩ := hv'; subst hv9')); (have off0 := OffR.mk off'); (replace off' := OffS.mk off'); (iterate 25 (try replace off0 := off0.tail)); clear ne') | refine LCt.CompRestT.zero ?_))
  (k_with "compareOp In int ref" => (k_here; (with_reducible show wpAny _ _ (compareOp CmpOp.In (Value.int _ _) (Value.ref _)) _ _ _); k_dflt (refine' in_known ?lzz ?izz ?bzz ?_; (case lzz => exact News.isList (by k_asm) (by k_mem)); (case izz => ((repeat constructor); done)); (case bzz => with_reducible assumption))))
  (k_with "compareOp NotEq ref ref" => (k_here; (with_reducible show wpAny _ _ (compareOp CmpOp.NotEq (Value.ref _) (Value.ref _)) _ _ _); k_dflt (refine' ne_nil ?azz ?bzz ?izz ?uzz ?_; (case azz => exact News.isList (by k_asm) (by k_mem)); (case bzz => exact News.isList (by k_asm) (by k_mem)); (case izz => ((repeat constructor); done)); (case uzz => ke_room))))
  obtain ⟨tk1, hk1⟩ := hE1.kind
  obtain ⟨tk2, hk2⟩ := hE2.kind
  have ht1 := hE1.tagged
  have ht2 := hE2.tagged
  unfold Con
  k_fill
  intro dp un gd cn cs a ccd cl outer A₀ base h₀ L m s Q E B F X N T hk hd hu ret
  refine wpAny_call ?_
  k_dflt (refine' code_defC ?k1 ?k2 ?k3 ?k4 ?k5 ?kA ?kF ?kK ?k6 ?k7 ?k8 ?k9 ?kB ?kD ?_ ?c2 ?c3 ?c4; (case kA => exact rfl); (case kF => exact rfl); (case kK => assumption); (case k1 => k_asm); (case k2 => k_asm); (case k3 => k_asm); (case k4 => k_asm); (case k5 => k_asm); (case k6 => k_is); (case k7 => k_is); (case k8 => k_room); (case k9 => exact BindsTo.of_eq rfl); (case kB => exact rfl); (case kD => decide +kernel); (case c2 => exact rfl); (case c3 => exact rfl); (case c4 => exact rfl); k_whole; intro g' L' h' tk' cells' FG' F' N' Y' B' X' T' l1; (have lc1 := LtAll.mk (all_succ l1)); (have lc2 := LtAll.cons (o := default) lc1 (Nat.lt_succ_self (L' + 1))); (replace l1 := LtAll.mk l1); (have l1t := LtAll.ne l1); (iterate 25 (try replace l1t := l1t.tail)); k_cells Y'; (try simp only [List.cons_append, List.nil_append] at N'); (try dsimp only); (try k_lift B'); (try k_fold))
  k_steps
  all_goals first | exact ret _ _ _ _ ⟨rfl, rfl⟩ (by k_asm) (newsSub (by k_asm) (by tb_start)) | (exfalso; omega)
theorem ic_F11c {w : World} {loose : List Str} {mean : ExcName → Option Value} {mg mb : Str → Option Value} {news : List (Addr × Obj)} {x1 d1 : Addr} {e1 : List DictEntry} {x2 d2 : Addr} {e2 : List DictEntry} {k1 k2 k3 k4 : Str} {b2 : Bool} {n1 n2 n3 n4 : Int} {l1 h1 i1 q1 l2 h2 i2 q2 l3 h3 i3 q3 l4 h4 i4 q4 : Value} (hb1 : NumK k1 false) (hb2 : NumK k2 b2) (hc1 : (k1 == Str.ofString "class") = false) (hc2 : (k2 == Str.ofString "class") = false)  (hi1 : ([n2].any fun y => y == n1) = true)
    (hx1 : (x1, instObj 32 d1) ∈ news) (hd1 : (d1, dictOf e1 24) ∈ news) (hE1 : TyG k1 n1 .none l1 h1 i1 q1 e1) (hx2 : (x2, instObj 32 d2) ∈ news) (hd2 : (d2, dictOf e2 24) ∈ news) (hE2 : TyG k2 n2 .none l2 h2 i2 q2 e2) :
    Con PySem.Challenge.rw_rg0005_01.row.prog w (KK w.params) VV loose mean mg mb 100 1000 211 [.ref x1, .ref x2] news (fun r news' => r = .bool true ∧ news' = news) := by
  obtain ⟨tk1, hk1⟩ := hE1.kind
  obtain ⟨tk2, hk2⟩ := hE2.kind
  have ht1 := hE1.tagged
  have ht2 := hE2.tagged
  unfold Con
  k_fill
  intro dp un gd cn cs a ccd cl outer A₀ base h₀ L m s Q E B F X N T hk hd hu ret
  refine wpAny_call ?_
  k_dflt (refine' code_defC ?k1 ?k2 ?k3 ?k4 ?k5 ?kA ?kF ?kK ?k6 ?k7 ?k8 ?k9 ?kB ?kD ?_ ?c2 ?c3 ?c4; (case kA => exact rfl); (case kF => exact rfl); (case kK => assumption); (case k1 => k_asm); (case k2 => k_asm); (case k3 => k_asm); (case k4 => k_asm); (case k5 => k_asm); (case k6 => k_is); (case k7 => k_is); (case k8 => k_room); (case k9 => exact BindsTo.of_eq rfl); (case kB => exact rfl); (case kD => decide +kernel); (case c2 => exact rfl); (case c3 => exact rfl); (case c4 => exact rfl); k_whole; intro g' L' h' tk' cells' FG' F' N' Y' B' X' T' l1; (have lc1 := LtAll.mk (all_succ l1)); (have lc2 := LtAll.cons (o := default) lc1 (Nat.lt_succ_self (L' + 1))); (replace l1 := LtAll.mk l1); (have l1t := LtAll.ne l1); (iterate 25 (try replace l1t := l1t.tail)); k_cells Y'; (try simp only [List.cons_append, List.nil_append] at N'); (try dsimp only); (try k_lift B'); (try k_fold))
  k_steps
  all_goals first | exact ret _ _ _ _ ⟨rfl, rfl⟩ (by k_asm) (newsSub (by k_asm) (by tb_start)) | (exfalso; omega)
theorem ic_F11n {w : World} {loose : List Str} {mean : ExcName → Option Value} {mg mb : Str → Option Value} {news : List (Addr × Obj)} {x1 d1 : Addr} {e1 : List DictEntry} {x2 d2 : Addr} {e2 : List DictEntry} {k1 k2 k3 k4 : Str} {b2 : Bool} {n1 n2 n3 n4 : Int} {l1 h1 i1 q1 l2 h2 i2 q2 l3 h3 i3 q3 l4 h4 i4 q4 : Value} (hb1 : NumK k1 false) (hb2 : NumK k2 b2) (hc1 : (k1 == Str.ofString "class") = false) (hc2 : (k2 == Str.ofString "class") = false) (hka : (k1 == Str.ofString "array") = false) (hi1 : ([n2].any fun y => y == n1) = false)
    (hx1 : (x1, instObj 32 d1) ∈ news) (hd1 : (d1, dictOf e1 24) ∈ news) (hE1 : TyG k1 n1 .none l1 h1 i1 q1 e1) (hx2 : (x2, instObj 32 d2) ∈ news) (hd2 : (d2, dictOf e2 24) ∈ news) (hE2 : TyG k2 n2 .none l2 h2 i2 q2 e2) :
    Con PySem.Challenge.rw_rg0005_01.row.prog w (KK w.params) VV loose mean mg mb 100 1000 211 [.ref x1, .ref x2] news (fun r news' => r = .bool false ∧ news' = news) := by
  obtain ⟨tk1, hk1⟩ := hE1.kind
  obtain ⟨tk2, hk2⟩ := hE2.kind
  have ht1 := hE1.tagged
  have ht2 := hE2.tagged
  unfold Con
  k_fill
  intro dp un gd cn cs a ccd cl outer A₀ base h₀ L m s Q E B F X N T hk hd hu ret
  refine wpAny_call ?_
  k_dflt (refine' code_defC ?k1 ?k2 ?k3 ?k4 ?k5 ?kA ?kF ?kK ?k6 ?k7 ?k8 ?k9 ?kB ?kD ?_ ?c2 ?c3 ?c4; (case kA => exact rfl); (case kF => exact rfl); (case kK => assumption); (case k1 => k_asm); (case k2 => k_asm); (case k3 => k_asm); (case k4 => k_asm); (case k5 => k_asm); (case k6 => k_is); (case k7 => k_is); (case k8 => k_room); (case k9 => exact BindsTo.of_eq rfl); (case kB => exact rfl); (case kD => decide +kernel); (case c2 => exact rfl); (case c3 => exact rfl); (case c4 => exact rfl); k_whole; intro g' L' h' tk' cells' FG' F' N' Y' B' X' T' l1; (have lc1 := LtAll.mk (all_succ l1)); (have lc2 := LtAll.cons (o := default) lc1 (Nat.lt_succ_self (L' + 1))); (replace l1 := LtAll.mk l1); (have l1t := LtAll.ne l1); (iterate 25 (try replace l1t := l1t.tail)); k_cells Y'; (try simp only [List.cons_append, List.nil_append] at N'); (try dsimp only); (try k_lift B'); (try k_fold))
  k_steps
  all_goals first | exact ret _ _ _ _ ⟨rfl, rfl⟩ (by k_asm) (newsSub (by k_asm) (by tb_start)) | (exfalso; omega)
theorem ic_F11a {w : World} {loose : List Str} {mean : ExcName → Option Value} {mg mb : Str → Option Value} {news : List (Addr × Obj)} {x1 d1 : Addr} {e1 : List DictEntry} {x2 d2 : Addr} {e2 : List DictEntry} {k1 k2 k3 k4 : Str} {b2 : Bool} {n1 n2 n3 n4 : Int} {l1 h1 i1 q1 l2 h2 i2 q2 l3 h3 i3 q3 l4 h4 i4 q4 : Value} (hb1 : NumK k1 false) (hb2 : NumK k2 b2) (hc1 : (k1 == Str.ofString "class") = false) (hc2 : (k2 == Str.ofString "class") = false) (hka : (k1 == Str.ofString "array") = true) (hkb : (k2 == Str.ofString "array") = false) (hi1 : ([n2].any fun y => y == n1) = false)
    (hx1 : (x1, instObj 32 d1) ∈ news) (hd1 : (d1, dictOf e1 24) ∈ news) (hE1 : TyG k1 n1 .none l1 h1 i1 q1 e1) (hx2 : (x2, instObj 32 d2) ∈ news) (hd2 : (d2, dictOf e2 24) ∈ news) (hE2 : TyG k2 n2 .none l2 h2 i2 q2 e2) :
    Con PySem.Challenge.rw_rg0005_01.row.prog w (KK w.params) VV loose mean mg mb 100 1000 211 [.ref x1, .ref x2] news (fun r news' => r = .bool false ∧ news' = news) := by
  obtain ⟨tk1, hk1⟩ := hE1.kind
  obtain ⟨tk2, hk2⟩ := hE2.kind
  have ht1 := hE1.tagged
  have ht2 := hE2.tagged
  unfold Con
  k_fill
  intro dp un gd cn cs a ccd cl outer A₀ base h₀ L m s Q E B F X N T hk hd hu ret
  refine wpAny_call ?_
  k_dflt (refine' code_defC ?k1 ?k2 ?k3 ?k4 ?k5 ?kA ?kF ?kK ?k6 ?k7 ?k8 ?k9 ?kB ?kD ?_ ?c2 ?c3 ?c4; (case kA => exact rfl); (case kF => exact rfl); (case kK => assumption); (case k1 => k_asm); (case k2 => k_asm); (case k3 => k_asm); (case k4 => k_asm); (case k5 => k_asm); (case k6 => k_is); (case k7 => k_is); (case k8 => k_room); (case k9 => exact BindsTo.of_eq rfl); (case kB => exact rfl); (case kD => decide +kernel); (case c2 => exact rfl); (case c3 => exact rfl); (case c4 => exact rfl); k_whole; intro g' L' h' tk' cells' FG' F' N' Y' B' X' T' l1; (have lc1 := LtAll.mk (all_succ l1)); (have lc2 := LtAll.cons (o := default) lc1 (Nat.lt_succ_self (L' + 1))); (replace l1 := LtAll.mk l1); (have l1t := LtAll.ne l1); (iterate 25 (try replace l1t := l1t.tail)); k_cells Y'; (try simp only [List.cons_append, List.nil_append] at N'); (try dsimp only); (try k_lift B'); (try k_fold))
  k_steps
  all_goals first | exact ret _ _ _ _ ⟨rfl, rfl⟩ (by k_asm) (newsSub (by k_asm) (by tb_start)) | (exfalso; omega)
theorem ic_F21a {w : World} {loose : List Str} {mean : ExcName → Option Value} {mg mb : Str → Option Value} {news : List (Addr × Obj)} {x1 d1 : Addr} {e1 : List DictEntry} {x2 d2 : Addr} {e2 : List DictEntry} {x3 d3 : Addr} {e3 : List DictEntry} {k1 k2 k3 k4 : Str} {b2 : Bool} {n1 n2 n3 n4 : Int} {l1 h1 i1 q1 l2 h2 i2 q2 l3 h3 i3 q3 l4 h4 i4 q4 : Value} (hb1 : NumK k1 false) (hb2 : NumK k2 b2) (hc1 : (k1 == Str.ofString "class") = false) (hc2 : (k2 == Str.ofString "class") = false) (hka : (k1 == Str.ofString "array") = true) (hkb : (k2 == Str.ofString "array") = false) (hi1 : ([n2].any fun y => y == n1) = false) (hi3 : ([n2].any fun y => y == n3) = false)
    (hx1 : (x1, instObj 32 d1) ∈ news) (hd1 : (d1, dictOf e1 24) ∈ news) (hE1 : TyG k1 n1 (.ref x3) l1 h1 i1 q1 e1) (hx2 : (x2, instObj 32 d2) ∈ news) (hd2 : (d2, dictOf e2 24) ∈ news) (hE2 : TyG k2 n2 .none l2 h2 i2 q2 e2) (hx3 : (x3, instObj 32 d3) ∈ news) (hd3 : (d3, dictOf e3 24) ∈ news) (hE3 : TyG k3 n3 .none l3 h3 i3 q3 e3) :
    Con PySem.Challenge.rw_rg0005_01.row.prog w (KK w.params) VV loose mean mg mb 100 1000 211 [.ref x1, .ref x2] news (fun r news' => r = .bool false ∧ news' = news) := by
  obtain ⟨tk1, hk1⟩ := hE1.kind
  obtain ⟨tk2, hk2⟩ := hE2.kind
  have ht1 := hE1.tagged
  have ht2 := hE2.tagged
  unfold Con
  k_fill
  intro dp un gd cn cs a ccd cl outer A₀ base h₀ L m s Q E B F X N T hk hd hu ret
  refine wpAny_call ?_
  k_dflt (refine' code_defC ?k1 ?k2 ?k3 ?k4 ?k5 ?kA ?kF ?kK ?k6 ?k7 ?k8 ?k9 ?kB ?kD ?_ ?c2 ?c3 ?c4; (case kA => exact rfl); (case kF => exact rfl); (case kK => assumption); (case k1 => k_asm); (case k2 => k_asm); (case k3 => k_asm); (case k4 => k_asm); (case k5 => k_asm); (case k6 => k_is); (case k7 => k_is); (case k8 => k_room); (case k9 => exact BindsTo.of_eq rfl); (case kB => exact rfl); (case kD => decide +kernel); (case c2 => exact rfl); (case c3 => exact rfl); (case c4 => exact rfl); k_whole; intro g' L' h' tk' cells' FG' F' N' Y' B' X' T' l1; (have lc1 := LtAll.mk (all_succ l1)); (have lc2 := LtAll.cons (o := default) lc1 (Nat.lt_succ_self (L' + 1))); (replace l1 := LtAll.mk l1); (have l1t := LtAll.ne l1); (iterate 25 (try replace l1t := l1t.tail)); k_cells Y'; (try simp only [List.cons_append, List.nil_append] at N'); (try dsimp only); (try k_lift B'); (try k_fold))
  k_steps
  all_goals first | exact ret _ _ _ _ ⟨rfl, rfl⟩ (by k_asm) (newsSub (by k_asm) (by tb_start)) | (exfalso; omega)
theorem ic_F21c {w : World} {loose : List Str} {mean : ExcName → Option Value} {mg mb : Str → Option Value} {news : List (Addr × Obj)} {x1 d1 : Addr} {e1 : List DictEntry} {x2 d2 : Addr} {e2 : List DictEntry} {x3 d3 : Addr} {e3 : List DictEntry} {k1 k2 k3 k4 : Str} {b2 : Bool} {n1 n2 n3 n4 : Int} {l1 h1 i1 q1 l2 h2 i2 q2 l3 h3 i3 q3 l4 h4 i4 q4 : Value} (hb1 : NumK k1 false) (hb2 : NumK k2 b2) (hc1 : (k1 == Str.ofString "class") = false) (hc2 : (k2 == Str.ofString "class") = false)  (hi1 : ([n2].any fun y => y == n1) = false) (hi3 : ([n2].any fun y => y == n3) = true)
    (hx1 : (x1, instObj 32 d1) ∈ news) (hd1 : (d1, dictOf e1 24) ∈ news) (hE1 : TyG k1 n1 (.ref x3) l1 h1 i1 q1 e1) (hx2 : (x2, instObj 32 d2) ∈ news) (hd2 : (d2, dictOf e2 24) ∈ news) (hE2 : TyG k2 n2 .none l2 h2 i2 q2 e2) (hx3 : (x3, instObj 32 d3) ∈ news) (hd3 : (d3, dictOf e3 24) ∈ news) (hE3 : TyG k3 n3 .none l3 h3 i3 q3 e3) :
    Con PySem.Challenge.rw_rg0005_01.row.prog w (KK w.params) VV loose mean mg mb 100 1000 211 [.ref x1, .ref x2] news (fun r news' => r = .bool true ∧ news' = news) := by
  obtain ⟨tk1, hk1⟩ := hE1.kind
  obtain ⟨tk2, hk2⟩ := hE2.kind
  have ht1 := hE1.tagged
  have ht2 := hE2.tagged
  unfold Con
  k_fill
  intro dp un gd cn cs a ccd cl outer A₀ base h₀ L m s Q E B F X N T hk hd hu ret
  refine wpAny_call ?_
  k_dflt (refine' code_defC ?k1 ?k2 ?k3 ?k4 ?k5 ?kA ?kF ?kK ?k6 ?k7 ?k8 ?k9 ?kB ?kD ?_ ?c2 ?c3 ?c4; (case kA => exact rfl); (case kF => exact rfl); (case kK => assumption); (case k1 => k_asm); (case k2 => k_asm); (case k3 => k_asm); (case k4 => k_asm); (case k5 => k_asm); (case k6 => k_is); (case k7 => k_is); (case k8 => k_room); (case k9 => exact BindsTo.of_eq rfl); (case kB => exact rfl); (case kD => decide +kernel); (case c2 => exact rfl); (case c3 => exact rfl); (case c4 => exact rfl); k_whole; intro g' L' h' tk' cells' FG' F' N' Y' B' X' T' l1; (have lc1 := LtAll.mk (all_succ l1)); (have lc2 := LtAll.cons (o := default) lc1 (Nat.lt_succ_self (L' + 1))); (replace l1 := LtAll.mk l1); (have l1t := LtAll.ne l1); (iterate 25 (try replace l1t := l1t.tail)); k_cells Y'; (try simp only [List.cons_append, List.nil_append] at N'); (try dsimp only); (try k_lift B'); (try k_fold))
  k_steps
  all_goals first | exact ret _ _ _ _ ⟨rfl, rfl⟩ (by k_asm) (newsSub (by k_asm) (by tb_start)) | (exfalso; omega)
theorem ic_F12c {w : World} {loose : List Str} {mean : ExcName → Option Value} {mg mb : Str → Option Value} {news : List (Addr × Obj)} {x1 d1 : Addr} {e1 : List DictEntry} {x2 d2 : Addr} {e2 : List DictEntry} {x4 d4 : Addr} {e4 : List DictEntry} {k1 k2 k3 k4 : Str} {b2 : Bool} {n1 n2 n3 n4 : Int} {l1 h1 i1 q1 l2 h2 i2 q2 l3 h3 i3 q3 l4 h4 i4 q4 : Value} (hb1 : NumK k1 false) (hb2 : NumK k2 b2) (hc1 : (k1 == Str.ofString "class") = false) (hc2 : (k2 == Str.ofString "class") = false)  (hi1 : ([n2, n4].any fun y => y == n1) = true)
    (hx1 : (x1, instObj 32 d1) ∈ news) (hd1 : (d1, dictOf e1 24) ∈ news) (hE1 : TyG k1 n1 .none l1 h1 i1 q1 e1) (hx2 : (x2, instObj 32 d2) ∈ news) (hd2 : (d2, dictOf e2 24) ∈ news) (hE2 : TyG k2 n2 (.ref x4) l2 h2 i2 q2 e2) (hx4 : (x4, instObj 32 d4) ∈ news) (hd4 : (d4, dictOf e4 24) ∈ news) (hE4 : TyG k4 n4 .none l4 h4 i4 q4 e4) :
    Con PySem.Challenge.rw_rg0005_01.row.prog w (KK w.params) VV loose mean mg mb 100 1000 211 [.ref x1, .ref x2] news (fun r news' => r = .bool true ∧ news' = news) := by
  obtain ⟨tk1, hk1⟩ := hE1.kind
  obtain ⟨tk2, hk2⟩ := hE2.kind
  have ht1 := hE1.tagged
  have ht2 := hE2.tagged
  unfold Con
  k_fill
  intro dp un gd cn cs a ccd cl outer A₀ base h₀ L m s Q E B F X N T hk hd hu ret
  refine wpAny_call ?_
  k_dflt (refine' code_defC ?k1 ?k2 ?k3 ?k4 ?k5 ?kA ?kF ?kK ?k6 ?k7 ?k8 ?k9 ?kB ?kD ?_ ?c2 ?c3 ?c4; (case kA => exact rfl); (case kF => exact rfl); (case kK => assumption); (case k1 => k_asm); (case k2 => k_asm); (case k3 => k_asm); (case k4 => k_asm); (case k5 => k_asm); (case k6 => k_is); (case k7 => k_is); (case k8 => k_room); (case k9 => exact BindsTo.of_eq rfl); (case kB => exact rfl); (case kD => decide +kernel); (case c2 => exact rfl); (case c3 => exact rfl); (case c4 => exact rfl); k_whole; intro g' L' h' tk' cells' FG' F' N' Y' B' X' T' l1; (have lc1 := LtAll.mk (all_succ l1)); (have lc2 := LtAll.cons (o := default) lc1 (Nat.lt_succ_self (L' + 1))); (replace l1 := LtAll.mk l1); (have l1t := LtAll.ne l1); (iterate 25 (try replace l1t := l1t.tail)); k_cells Y'; (try simp only [List.cons_append, List.nil_append] at N'); (try dsimp only); (try k_lift B'); (try k_fold))
  k_steps
  all_goals first | exact ret _ _ _ _ ⟨rfl, rfl⟩ (by k_asm) (newsSub (by k_asm) (by tb_start)) | (exfalso; omega)
theorem ic_F22c {w : World} {loose : List Str} {mean : ExcName → Option Value} {mg mb : Str → Option Value} {news : List (Addr × Obj)} {x1 d1 : Addr} {e1 : List DictEntry} {x2 d2 : Addr} {e2 : List DictEntry} {x3 d3 : Addr} {e3 : List DictEntry} {x4 d4 : Addr} {e4 : List DictEntry} {k1 k2 k3 k4 : Str} {b2 : Bool} {n1 n2 n3 n4 : Int} {l1 h1 i1 q1 l2 h2 i2 q2 l3 h3 i3 q3 l4 h4 i4 q4 : Value} (hb1 : NumK k1 false) (hb2 : NumK k2 b2) (hc1 : (k1 == Str.ofString "class") = false) (hc2 : (k2 == Str.ofString "class") = false)  (hi1 : ([n2, n4].any fun y => y == n1) = false) (hi3 : ([n2, n4].any fun y => y == n3) = true)
    (hx1 : (x1, instObj 32 d1) ∈ news) (hd1 : (d1, dictOf e1 24) ∈ news) (hE1 : TyG k1 n1 (.ref x3) l1 h1 i1 q1 e1) (hx2 : (x2, instObj 32 d2) ∈ news) (hd2 : (d2, dictOf e2 24) ∈ news) (hE2 : TyG k2 n2 (.ref x4) l2 h2 i2 q2 e2) (hx3 : (x3, instObj 32 d3) ∈ news) (hd3 : (d3, dictOf e3 24) ∈ news) (hE3 : TyG k3 n3 .none l3 h3 i3 q3 e3) (hx4 : (x4, instObj 32 d4) ∈ news) (hd4 : (d4, dictOf e4 24) ∈ news) (hE4 : TyG k4 n4 .none l4 h4 i4 q4 e4) :
    Con PySem.Challenge.rw_rg0005_01.row.prog w (KK w.params) VV loose mean mg mb 100 1000 211 [.ref x1, .ref x2] news (fun r news' => r = .bool true ∧ news' = news) := by
  obtain ⟨tk1, hk1⟩ := hE1.kind
  obtain ⟨tk2, hk2⟩ := hE2.kind
  have ht1 := hE1.tagged
  have ht2 := hE2.tagged
  unfold Con
  k_fill
  intro dp un gd cn cs a ccd cl outer A₀ base h₀ L m s Q E B F X N T hk hd hu ret
  refine wpAny_call ?_
  k_dflt (refine' code_defC ?k1 ?k2 ?k3 ?k4 ?k5 ?kA ?kF ?kK ?k6 ?k7 ?k8 ?k9 ?kB ?kD ?_ ?c2 ?c3 ?c4; (case kA => exact rfl); (case kF => exact rfl); (case kK => assumption); (case k1 => k_asm); (case k2 => k_asm); (case k3 => k_asm); (case k4 => k_asm); (case k5 => k_asm); (case k6 => k_is); (case k7 => k_is); (case k8 => k_room); (case k9 => exact BindsTo.of_eq rfl); (case kB => exact rfl); (case kD => decide +kernel); (case c2 => exact rfl); (case c3 => exact rfl); (case c4 => exact rfl); k_whole; intro g' L' h' tk' cells' FG' F' N' Y' B' X' T' l1; (have lc1 := LtAll.mk (all_succ l1)); (have lc2 := LtAll.cons (o := default) lc1 (Nat.lt_succ_self (L' + 1))); (replace l1 := LtAll.mk l1); (have l1t := LtAll.ne l1); (iterate 25 (try replace l1t := l1t.tail)); k_cells Y'; (try simp only [List.cons_append, List.nil_append] at N'); (try dsimp only); (try k_lift B'); (try k_fold))
  k_steps
  all_goals first | exact ret _ _ _ _ ⟨rfl, rfl⟩ (by k_asm) (newsSub (by k_asm) (by tb_start)) | (exfalso; omega)
theorem ic_F22s {w : World} {loose : List Str} {mean : ExcName → Option Value} {mg mb : Str → Option Value} {news : List (Addr × Obj)} {x1 d1 : Addr} {e1 : List DictEntry} {x2 d2 : Addr} {e2 : List DictEntry} {x3 d3 : Addr} {e3 : List DictEntry} {x4 d4 : Addr} {e4 : List DictEntry} {k1 k2 k3 k4 : Str} {b2 : Bool} {n1 n2 n3 n4 : Int} {l1 h1 i1 q1 l2 h2 i2 q2 l3 h3 i3 q3 l4 h4 i4 q4 : Value} (hb1 : NumK k1 false) (hb2 : NumK k2 b2) (hc1 : (k1 == Str.ofString "class") = false) (hc2 : (k2 == Str.ofString "class") = false)  (hi1 : ([n2, n4].any fun y => y == n1) = true) (hi3 : ([n2, n4].any fun y => y == n3) = true)
    (hx1 : (x1, instObj 32 d1) ∈ news) (hd1 : (d1, dictOf e1 24) ∈ news) (hE1 : TyG k1 n1 (.ref x3) l1 h1 i1 q1 e1) (hx2 : (x2, instObj 32 d2) ∈ news) (hd2 : (d2, dictOf e2 24) ∈ news) (hE2 : TyG k2 n2 (.ref x4) l2 h2 i2 q2 e2) (hx3 : (x3, instObj 32 d3) ∈ news) (hd3 : (d3, dictOf e3 24) ∈ news) (hE3 : TyG k3 n3 .none l3 h3 i3 q3 e3) (hx4 : (x4, instObj 32 d4) ∈ news) (hd4 : (d4, dictOf e4 24) ∈ news) (hE4 : TyG k4 n4 .none l4 h4 i4 q4 e4) :
    Con PySem.Challenge.rw_rg0005_01.row.prog w (KK w.params) VV loose mean mg mb 100 1000 211 [.ref x1, .ref x2] news (fun r news' => r = .bool true ∧ news' = news) := by
  obtain ⟨tk1, hk1⟩ := hE1.kind
  obtain ⟨tk2, hk2⟩ := hE2.kind
  have ht1 := hE1.tagged
  have ht2 := hE2.tagged
  unfold Con
  k_fill
  intro dp un gd cn cs a ccd cl outer A₀ base h₀ L m s Q E B F X N T hk hd hu ret
  refine wpAny_call ?_
  k_dflt (refine' code_defC ?k1 ?k2 ?k3 ?k4 ?k5 ?kA ?kF ?kK ?k6 ?k7 ?k8 ?k9 ?kB ?kD ?_ ?c2 ?c3 ?c4; (case kA => exact rfl); (case kF => exact rfl); (case kK => assumption); (case k1 => k_asm); (case k2 => k_asm); (case k3 => k_asm); (case k4 => k_asm); (case k5 => k_asm); (case k6 => k_is); (case k7 => k_is); (case k8 => k_room); (case k9 => exact BindsTo.of_eq rfl); (case kB => exact rfl); (case kD => decide +kernel); (case c2 => exact rfl); (case c3 => exact rfl); (case c4 => exact rfl); k_whole; intro g' L' h' tk' cells' FG' F' N' Y' B' X' T' l1; (have lc1 := LtAll.mk (all_succ l1)); (have lc2 := LtAll.cons (o := default) lc1 (Nat.lt_succ_self (L' + 1))); (replace l1 := LtAll.mk l1); (have l1t := LtAll.ne l1); (iterate 25 (try replace l1t := l1t.tail)); k_cells Y'; (try simp only [List.cons_append, List.nil_append] at N'); (try dsimp only); (try k_lift B'); (try k_fold))
  k_steps
  all_goals first | exact ret _ _ _ _ ⟨rfl, rfl⟩ (by k_asm) (newsSub (by k_asm) (by tb_start)) | (exfalso; omega)
theorem ic_T11n {w : World} {loose : List Str} {mean : ExcName → Option Value} {mg mb : Str → Option Value} {news : List (Addr × Obj)} {x1 d1 : Addr} {e1 : List DictEntry} {x2 d2 : Addr} {e2 : List DictEntry} {k1 k2 k3 k4 : Str} {n1 n2 n3 n4 : Int} {l1 h1 i1 q1 l2 h2 i2 q2 l3 h3 i3 q3 l4 h4 i4 q4 : Value} (hb1 : NumK k1 true) (hb2 : NumK k2 false) (hc1 : (k1 == Str.ofString "class") = false) (hc2 : (k2 == Str.ofString "class") = false) (hka : (k1 == Str.ofString "array") = false) (hi1 : ([n2].any fun y => y == n1) = false)
    (hx1 : (x1, instObj 32 d1) ∈ news) (hd1 : (d1, dictOf e1 24) ∈ news) (hE1 : TyG k1 n1 .none l1 h1 i1 q1 e1) (hx2 : (x2, instObj 32 d2) ∈ news) (hd2 : (d2, dictOf e2 24) ∈ news) (hE2 : TyG k2 n2 .none l2 h2 i2 q2 e2) :
    Con PySem.Challenge.rw_rg0005_01.row.prog w (KK w.params) VV loose mean mg mb 100 1000 211 [.ref x1, .ref x2] news (fun r news' => r = .bool false ∧ news' = news) := by
  obtain ⟨tk1, hk1⟩ := hE1.kind
  obtain ⟨tk2, hk2⟩ := hE2.kind
  have ht1 := hE1.tagged
  have ht2 := hE2.tagged
  unfold Con
  k_fill
  intro dp un gd cn cs a ccd cl outer A₀ base h₀ L m s Q E B F X N T hk hd hu ret
  refine wpAny_call ?_
  k_dflt (refine' code_defC ?k1 ?k2 ?k3 ?k4 ?k5 ?kA ?kF ?kK ?k6 ?k7 ?k8 ?k9 ?kB ?kD ?_ ?c2 ?c3 ?c4; (case kA => exact rfl); (case kF => exact rfl); (case kK => assumption); (case k1 => k_asm); (case k2 => k_asm); (case k3 => k_asm); (case k4 => k_asm); (case k5 => k_asm); (case k6 => k_is); (case k7 => k_is); (case k8 => k_room); (case k9 => exact BindsTo.of_eq rfl); (case kB => exact rfl); (case kD => decide +kernel); (case c2 => exact rfl); (case c3 => exact rfl); (case c4 => exact rfl); k_whole; intro g' L' h' tk' cells' FG' F' N' Y' B' X' T' l1; (have lc1 := LtAll.mk (all_succ l1)); (have lc2 := LtAll.cons (o := default) lc1 (Nat.lt_succ_self (L' + 1))); (replace l1 := LtAll.mk l1); (have l1t := LtAll.ne l1); (iterate 25 (try replace l1t := l1t.tail)); k_cells Y'; (try simp only [List.cons_append, List.nil_append] at N'); (try dsimp only); (try k_lift B'); (try k_fold))
  k_steps
  all_goals first | exact ret _ _ _ _ ⟨rfl, rfl⟩ (by k_asm) (newsSub (by k_asm) (by tb_start)) | (exfalso; omega)
theorem ic_T12n {w : World} {loose : List Str} {mean : ExcName → Option Value} {mg mb : Str → Option Value} {news : List (Addr × Obj)} {x1 d1 : Addr} {e1 : List DictEntry} {x2 d2 : Addr} {e2 : List DictEntry} {x4 d4 : Addr} {e4 : List DictEntry} {k1 k2 k3 k4 : Str} {n1 n2 n3 n4 : Int} {l1 h1 i1 q1 l2 h2 i2 q2 l3 h3 i3 q3 l4 h4 i4 q4 : Value} (hb1 : NumK k1 true) (hb2 : NumK k2 false) (hc1 : (k1 == Str.ofString "class") = false) (hc2 : (k2 == Str.ofString "class") = false) (hka : (k1 == Str.ofString "array") = false) (hi1 : ([n2, n4].any fun y => y == n1) = false)
    (hx1 : (x1, instObj 32 d1) ∈ news) (hd1 : (d1, dictOf e1 24) ∈ news) (hE1 : TyG k1 n1 .none l1 h1 i1 q1 e1) (hx2 : (x2, instObj 32 d2) ∈ news) (hd2 : (d2, dictOf e2 24) ∈ news) (hE2 : TyG k2 n2 (.ref x4) l2 h2 i2 q2 e2) (hx4 : (x4, instObj 32 d4) ∈ news) (hd4 : (d4, dictOf e4 24) ∈ news) (hE4 : TyG k4 n4 .none l4 h4 i4 q4 e4) :
    Con PySem.Challenge.rw_rg0005_01.row.prog w (KK w.params) VV loose mean mg mb 100 1000 211 [.ref x1, .ref x2] news (fun r news' => r = .bool false ∧ news' = news) := by
  obtain ⟨tk1, hk1⟩ := hE1.kind
  obtain ⟨tk2, hk2⟩ := hE2.kind
  have ht1 := hE1.tagged
  have ht2 := hE2.tagged
  unfold Con
  k_fill
  intro dp un gd cn cs a ccd cl outer A₀ base h₀ L m s Q E B F X N T hk hd hu ret
  refine wpAny_call ?_
  k_dflt (refine' code_defC ?k1 ?k2 ?k3 ?k4 ?k5 ?kA ?kF ?kK ?k6 ?k7 ?k8 ?k9 ?kB ?kD ?_ ?c2 ?c3 ?c4; (case kA => exact rfl); (case kF => exact rfl); (case kK => assumption); (case k1 => k_asm); (case k2 => k_asm); (case k3 => k_asm); (case k4 => k_asm); (case k5 => k_asm); (case k6 => k_is); (case k7 => k_is); (case k8 => k_room); (case k9 => exact BindsTo.of_eq rfl); (case kB => exact rfl); (case kD => decide +kernel); (case c2 => exact rfl); (case c3 => exact rfl); (case c4 => exact rfl); k_whole; intro g' L' h' tk' cells' FG' F' N' Y' B' X' T' l1; (have lc1 := LtAll.mk (all_succ l1)); (have lc2 := LtAll.cons (o := default) lc1 (Nat.lt_succ_self (L' + 1))); (replace l1 := LtAll.mk l1); (have l1t := LtAll.ne l1); (iterate 25 (try replace l1t := l1t.tail)); k_cells Y'; (try simp only [List.cons_append, List.nil_append] at N'); (try dsimp only); (try k_lift B'); (try k_fold))
  k_steps
  all_goals first | exact ret _ _ _ _ ⟨rfl, rfl⟩ (by k_asm) (newsSub (by k_asm) (by tb_start)) | (exfalso; omega)
end
def KindAt (news : List (Addr × Obj)) (K : Addr) (k : Str) (n lo hi : Int) : Prop :=
  ∃ (d : Addr) (e : List DictEntry) (tlo thi : Tok) (ix cp : Value), (K, instObj 32 d) ∈ news ∧ (d, dictOf e 24) ∈ news ∧ TyG k n .none (.int lo tlo) (.int hi thi) ix cp e
structure Kinds (news : List (Addr × Obj)) (K0 K1 K2 K3 : Addr) : Prop where
  k0 : KindAt news K0 (Str.ofString "int") 31 (-9) 9
  k1 : KindAt news K1 (Str.ofString "int") 32 0 5
  k2 : KindAt news K2 (Str.ofString "mod") 33 0 7
  k3 : KindAt news K3 (Str.ofString "enum") 34 0 2
theorem KindAt.mono {news news' : List (Addr × Obj)} {K : Addr} {k : Str} {n lo hi : Int} (h : KindAt news K k n lo hi) (s : ∀ p ∈ news, p ∈ news') : KindAt news' K k n lo hi := by
  obtain ⟨d, e, tlo, thi, ix, cp, h1, h2, h3⟩ := h
  exact ⟨d, e, tlo, thi, ix, cp, s _ h1, s _ h2, h3⟩
theorem Kinds.mono {news news' : List (Addr × Obj)} {K0 K1 K2 K3 : Addr} (h : Kinds news K0 K1 K2 K3) (s : ∀ p ∈ news, p ∈ news') : Kinds news' K0 K1 K2 K3 := ⟨h.k0.mono s, h.k1.mono s, h.k2.mono s, h.k3.mono s⟩
noncomputable def cv (i j : Int) : Bool := decide (i = 3 ↔ j = 3)
theorem nk_int : NumK (Str.ofString "int") true := .inl ⟨.inl rfl, rfl⟩
theorem nk_mod : NumK (Str.ofString "mod") true := .inl ⟨.inr rfl, rfl⟩
theorem nk_enum : NumK (Str.ofString "enum") false := .inr ⟨.inl rfl, rfl⟩
theorem nk_array : NumK (Str.ofString "array") false := .inr ⟨.inr rfl, rfl⟩
theorem nc_int : (Str.ofString "int" == Str.ofString "class") = false := by decide +kernel
theorem nc_mod : (Str.ofString "mod" == Str.ofString "class") = false := by decide +kernel
theorem nc_enum : (Str.ofString "enum" == Str.ofString "class") = false := by decide +kernel
theorem nc_array : (Str.ofString "array" == Str.ofString "class") = false := by decide +kernel
theorem na_int : (Str.ofString "int" == Str.ofString "array") = false := by decide +kernel
theorem na_mod : (Str.ofString "mod" == Str.ofString "array") = false := by decide +kernel
theorem na_enum : (Str.ofString "enum" == Str.ofString "array") = false := by decide +kernel
theorem na_array : (Str.ofString "array" == Str.ofString "array") = true := by decide +kernel
theorem sc_num {w : World} {loose : List Str} {mean : ExcName → Option Value} {mg mb : Str → Option Value} {news : List (Addr × Obj)} {x1 x2 : Addr} {k1 k2 : Str} {n1 n2 lo1 hi1 lo2 hi2 : Int} (h1 : KindAt news x1 k1 n1 lo1 hi1) (h2 : KindAt news x2 k2 n2 lo2 hi2) (b1 : NumK k1 true) (b2 : NumK k2 true) (c1 : (k1 == Str.ofString "class") = false) (c2 : (k2 == Str.ofString "class") = false) :
    Con PySem.Challenge.rw_rg0005_01.row.prog w (KK w.params) VV loose mean mg mb 100 1000 211 [.ref x1, .ref x2] news (fun r news' => r = .bool true ∧ news' = news) := by
  obtain ⟨d, e, tlo, thi, ix, cp, g1, g2, g3⟩ := h1
  obtain ⟨d', e', tlo', thi', ix', cp', g1', g2', g3'⟩ := h2
  exact ic_tt (k3 := k1) (k4 := k1) (n3 := 0) (n4 := 0) (l3 := .none) (h3 := .none) (i3 := .none) (q3 := .none) (l4 := .none) (h4 := .none) (i4 := .none) (q4 := .none) b1 b2 c1 c2 g1 g2 g3 g1' g2' g3'
theorem sc_same {w : World} {loose : List Str} {mean : ExcName → Option Value} {mg mb : Str → Option Value} {news : List (Addr × Obj)} {x1 x2 : Addr} {k1 k2 : Str} {b2 : Bool} {n1 n2 lo1 hi1 lo2 hi2 : Int} (h1 : KindAt news x1 k1 n1 lo1 hi1) (h2 : KindAt news x2 k2 n2 lo2 hi2) (b1 : NumK k1 false) (hb2 : NumK k2 b2) (c1 : (k1 == Str.ofString "class") = false) (c2 : (k2 == Str.ofString "class") = false) (hn : ([n2].any fun y => y == n1) = true) :
    Con PySem.Challenge.rw_rg0005_01.row.prog w (KK w.params) VV loose mean mg mb 100 1000 211 [.ref x1, .ref x2] news (fun r news' => r = .bool true ∧ news' = news) := by
  obtain ⟨d, e, tlo, thi, ix, cp, g1, g2, g3⟩ := h1
  obtain ⟨d', e', tlo', thi', ix', cp', g1', g2', g3'⟩ := h2
  exact ic_F11c (k3 := k1) (k4 := k1) (n3 := 0) (n4 := 0) (l3 := .none) (h3 := .none) (i3 := .none) (q3 := .none) (l4 := .none) (h4 := .none) (i4 := .none) (q4 := .none) b1 hb2 c1 c2 hn g1 g2 g3 g1' g2' g3'
theorem sc_noF {w : World} {loose : List Str} {mean : ExcName → Option Value} {mg mb : Str → Option Value} {news : List (Addr × Obj)} {x1 x2 : Addr} {k1 k2 : Str} {b2 : Bool} {n1 n2 lo1 hi1 lo2 hi2 : Int} (h1 : KindAt news x1 k1 n1 lo1 hi1) (h2 : KindAt news x2 k2 n2 lo2 hi2) (b1 : NumK k1 false) (hb2 : NumK k2 b2) (c1 : (k1 == Str.ofString "class") = false) (c2 : (k2 == Str.ofString "class") = false) (a1 : (k1 == Str.ofString "array") = false) (hn : ([n2].any fun y => y == n1) = false) :
    Con PySem.Challenge.rw_rg0005_01.row.prog w (KK w.params) VV loose mean mg mb 100 1000 211 [.ref x1, .ref x2] news (fun r news' => r = .bool false ∧ news' = news) := by
  obtain ⟨d, e, tlo, thi, ix, cp, g1, g2, g3⟩ := h1
  obtain ⟨d', e', tlo', thi', ix', cp', g1', g2', g3'⟩ := h2
  exact ic_F11n (k3 := k1) (k4 := k1) (n3 := 0) (n4 := 0) (l3 := .none) (h3 := .none) (i3 := .none) (q3 := .none) (l4 := .none) (h4 := .none) (i4 := .none) (q4 := .none) b1 hb2 c1 c2 a1 hn g1 g2 g3 g1' g2' g3'
theorem sc_noT {w : World} {loose : List Str} {mean : ExcName → Option Value} {mg mb : Str → Option Value} {news : List (Addr × Obj)} {x1 x2 : Addr} {k1 k2 : Str} {n1 n2 lo1 hi1 lo2 hi2 : Int} (h1 : KindAt news x1 k1 n1 lo1 hi1) (h2 : KindAt news x2 k2 n2 lo2 hi2) (b1 : NumK k1 true) (hb2 : NumK k2 false) (c1 : (k1 == Str.ofString "class") = false) (c2 : (k2 == Str.ofString "class") = false) (a1 : (k1 == Str.ofString "array") = false) (hn : ([n2].any fun y => y == n1) = false) :
    Con PySem.Challenge.rw_rg0005_01.row.prog w (KK w.params) VV loose mean mg mb 100 1000 211 [.ref x1, .ref x2] news (fun r news' => r = .bool false ∧ news' = news) := by
  obtain ⟨d, e, tlo, thi, ix, cp, g1, g2, g3⟩ := h1
  obtain ⟨d', e', tlo', thi', ix', cp', g1', g2', g3'⟩ := h2
  exact ic_T11n (k3 := k1) (k4 := k1) (n3 := 0) (n4 := 0) (l3 := .none) (h3 := .none) (i3 := .none) (q3 := .none) (l4 := .none) (h4 := .none) (i4 := .none) (q4 := .none) b1 hb2 c1 c2 a1 hn g1 g2 g3 g1' g2' g3'
theorem sc_con {w : World} {loose : List Str} {mean : ExcName → Option Value} {mg mb : Str → Option Value} {news : List (Addr × Obj)} {K0 K1 K2 K3 : Addr} {i j : Int} (hK : Kinds news K0 K1 K2 K3) (i0 : 0 ≤ i) (i4 : i < 4) (j0 : 0 ≤ j) (j4 : j < 4) :
    Con PySem.Challenge.rw_rg0005_01.row.prog w (KK w.params) VV loose mean mg mb 100 1000 211 [.ref (kd K0 K1 K2 K3 i), .ref (kd K0 K1 K2 K3 j)] news (fun r news' => r = .bool (cv i j) ∧ news' = news) := by
  rcases int_cases4 i0 i4 with rfl | rfl | rfl | rfl <;> rcases int_cases4 j0 j4 with rfl | rfl | rfl | rfl
  · exact sc_num hK.k0 hK.k0 nk_int nk_int nc_int nc_int
  · exact sc_num hK.k0 hK.k1 nk_int nk_int nc_int nc_int
  · exact sc_num hK.k0 hK.k2 nk_int nk_mod nc_int nc_mod
  · exact sc_noT hK.k0 hK.k3 nk_int nk_enum nc_int nc_enum na_int rfl
  · exact sc_num hK.k1 hK.k0 nk_int nk_int nc_int nc_int
  · exact sc_num hK.k1 hK.k1 nk_int nk_int nc_int nc_int
  · exact sc_num hK.k1 hK.k2 nk_int nk_mod nc_int nc_mod
  · exact sc_noT hK.k1 hK.k3 nk_int nk_enum nc_int nc_enum na_int rfl
  · exact sc_num hK.k2 hK.k0 nk_mod nk_int nc_mod nc_int
  · exact sc_num hK.k2 hK.k1 nk_mod nk_int nc_mod nc_int
  · exact sc_num hK.k2 hK.k2 nk_mod nk_mod nc_mod nc_mod
  · exact sc_noT hK.k2 hK.k3 nk_mod nk_enum nc_mod nc_enum na_mod rfl
  · exact sc_noF hK.k3 hK.k0 nk_enum nk_int nc_enum nc_int na_enum rfl
  · exact sc_noF hK.k3 hK.k1 nk_enum nk_int nc_enum nc_int na_enum rfl
  · exact sc_noF hK.k3 hK.k2 nk_enum nk_mod nc_enum nc_mod na_enum rfl
  · exact sc_same hK.k3 hK.k3 nk_enum nk_enum nc_enum nc_enum rfl
def IsRng (q : Params) (b : Addr) (lo hi : Int) : Prop := ∃ u v x : Tok, List.lookup b (KK q) = some ⟨.type "tuple", none, .seq ([.str (Str.ofString "range") u, .int lo v, .int hi x] : List Value).toArray 0, #[]⟩
def IsNmd (q : Params) (b : Addr) (s : Str) : Prop := ∃ (u v x : Tok) (lo : Int), PyData.strOk s = true ∧ List.lookup b (KK q) = some ⟨.type "tuple", none, .seq ([.str (Str.ofString "named") u, .int lo v, .str s x] : List Value).toArray 0, #[]⟩
theorem bv_shape (q : Params) {p : Int} (h0 : 0 ≤ p) (h8 : p < 8) : p = 0 ∨ (∃ b lo hi, bv p = .ref b ∧ IsRng q b lo hi ∧ (p, lo, hi) ∈ ([(1, 0, 9), (2, 0, 9), (3, -1, 5), (4, 0, 8)] : List (Int × Int × Int))) ∨
    ∃ b s, bv p = .ref b ∧ IsNmd q b s ∧ (p, s) ∈ ([(5, Str.ofString "s"), (6, Str.ofString "s"), (7, Str.ofString "r")] : List (Int × Str)) := by
  rcases int_cases8 h0 h8 with rfl | rfl | rfl | rfl | rfl | rfl | rfl | rfl
  · exact .inl rfl
  · exact .inr (.inl ⟨212, 0, 9, rfl, ⟨_, _, _, rfl⟩, by simp⟩)
  · exact .inr (.inl ⟨213, 0, 9, rfl, ⟨_, _, _, rfl⟩, by simp⟩)
  · exact .inr (.inl ⟨214, -1, 5, rfl, ⟨_, _, _, rfl⟩, by simp⟩)
  · exact .inr (.inl ⟨215, 0, 8, rfl, ⟨_, _, _, rfl⟩, by simp⟩)
  · exact .inr (.inr ⟨216, Str.ofString "s", rfl, ⟨_, _, _, _, by decide +kernel, rfl⟩, by simp⟩)
  · exact .inr (.inr ⟨217, Str.ofString "s", rfl, ⟨_, _, _, _, by decide +kernel, rfl⟩, by simp⟩)
  · exact .inr (.inr ⟨218, Str.ofString "r", rfl, ⟨_, _, _, _, by decide +kernel, rfl⟩, by simp⟩)
theorem Con.same {prog : Program} {w : World} {K : Frag} {p : Program} {loose : List Str} {mean : ExcName → Option Value} {mg mb : Str → Option Value} {dN uN : Nat} {f : Addr} {vs : List Value} {news : List (Addr × Obj)} {b c : Bool} (e : b = c) (h : Con prog w K p loose mean mg mb dN uN f vs news (fun r news' => r = .bool b ∧ news' = news)) :
    Con prog w K p loose mean mg mb dN uN f vs news (fun r news' => r = .bool c ∧ news' = news) := e ▸ h
theorem alike_con {w : World} {loose : List Str} {mean : ExcName → Option Value} {mg mb : Str → Option Value} {news : List (Addr × Obj)} {K0 K1 K2 K3 c1 c2 : Addr} {p1 p2 : Int} (hK : Kinds news K0 K1 K2 K3) (h1 : CompAt w K0 K1 K2 K3 news c1 p1) (h2 : CompAt w K0 K1 K2 K3 news c2 p2) (hb : big p1 = big p2) :
    Con PySem.Challenge.rw_rg0005_01.row.prog w (KK w.params) VV loose mean mg mb 100 1000 201 [.ref c1, .ref c2] news (fun r news' => r = .bool (decide (cls p1 = cls p2)) ∧ news' = news) := by
  obtain ⟨d0, e0, tlo0, thi0, ix0, cp0, k01, k02, k03⟩ := hK.k0
  obtain ⟨d3, e3, tlo3, thi3, ix3, cp3, k31, k32, k33⟩ := hK.k3
  have oi : Str.ofString "int" = Str.ofString "int" ∨ Str.ofString "int" = Str.ofString "enum" := .inl rfl
  have oe : Str.ofString "enum" = Str.ofString "int" ∨ Str.ofString "enum" = Str.ofString "enum" := .inr rfl
  cases h1 with
  | enum a1 a2 a3 =>
    cases h2 with
    | enum b1 b2 b3 => exact Con.same rfl (alike_nn (s1 := Str.empty) (b1 := 0) (u1 := 0) (v1 := 0) (w1 := 0) (l1 := .none) (h1 := .none) (s2 := Str.empty) (b2 := 0) (u2 := 0) (v2 := 0) (w2 := 0) (l2 := .none) (h2 := .none) oe oe a1 a2 a3 k31 k32 k33 b1 b2 b3 k31 k32 k33)
    | low b1 b2 b3 b0 b8 =>
      exfalso
      simp only [big] at hb
      rw [if_pos trivial, if_neg (by omega)] at hb
      omega
  | low a1 a2 a3 a0 a8 =>
    cases h2 with
    | enum b1 b2 b3 =>
      exfalso
      simp only [big] at hb
      rw [if_neg (by omega), if_pos trivial] at hb
      omega
    | low b1 b2 b3 b0 b8 =>
      rcases bv_shape w.params a0 a8 with rfl | ⟨b, lo, hi, eb, ⟨u, v, x, hu⟩, hm⟩ | ⟨b, s, eb, ⟨u, v, x, lo, ok, hu⟩, hm⟩ <;>
        rcases bv_shape w.params b0 b8 with rfl | ⟨b', lo', hi', eb', ⟨u', v', x', hu'⟩, hm'⟩ | ⟨b', s', eb', ⟨u', v', x', lo', ok', hu'⟩, hm'⟩
      · exact Con.same rfl (alike_nn (s1 := Str.empty) (b1 := 0) (u1 := 0) (v1 := 0) (w1 := 0) (l1 := .none) (h1 := .none) (s2 := Str.empty) (b2 := 0) (u2 := 0) (v2 := 0) (w2 := 0) (l2 := .none) (h2 := .none) oi oi a1 a2 a3 k01 k02 k03 b1 b2 b3 k01 k02 k03)
      · rw [eb'] at b3
        exact Con.same (by
          simp only [List.mem_cons, List.not_mem_nil, or_false, Prod.mk.injEq] at hm'
          rcases hm' with ⟨rfl, rfl, rfl⟩ | ⟨rfl, rfl, rfl⟩ | ⟨rfl, rfl, rfl⟩ | ⟨rfl, rfl, rfl⟩ <;> decide +kernel) (alike_nR (s1 := Str.empty) (b1 := 0) (u1 := 0) (v1 := 0) (w1 := 0) (l1 := .none) (h1 := .none) (s2 := Str.empty) (tlo2 := 0) (thi2 := 0) oi oi a1 a2 a3 k01 k02 k03 b1 b2 b3 hu' k01 k02 k03)
      · rw [eb'] at b3
        exact Con.same (by
          simp only [List.mem_cons, List.not_mem_nil, or_false, Prod.mk.injEq] at hm'
          rcases hm' with ⟨rfl, rfl⟩ | ⟨rfl, rfl⟩ | ⟨rfl, rfl⟩ <;> decide +kernel) (alike_nN (s1 := Str.empty) (b1 := 0) (u1 := 0) (v1 := 0) (w1 := 0) (l1 := .none) (h1 := .none) (tlo2 := 0) (thi2 := 0) (hi2 := 0) oi oi ok' a1 a2 a3 k01 k02 k03 b1 b2 b3 hu' k01 k02 k03)
      · rw [eb] at a3
        exact Con.same (by
          simp only [List.mem_cons, List.not_mem_nil, or_false, Prod.mk.injEq] at hm
          rcases hm with ⟨rfl, rfl, rfl⟩ | ⟨rfl, rfl, rfl⟩ | ⟨rfl, rfl, rfl⟩ | ⟨rfl, rfl, rfl⟩ <;> decide +kernel) (alike_Rn (s1 := Str.empty) (tlo1 := 0) (thi1 := 0) (s2 := Str.empty) (b2 := 0) (u2 := 0) (v2 := 0) (w2 := 0) (l2 := .none) (h2 := .none) oi oi a1 a2 a3 hu k01 k02 k03 b1 b2 b3 k01 k02 k03)
      · rw [eb] at a3
        rw [eb'] at b3
        exact Con.same (by
          simp only [List.mem_cons, List.not_mem_nil, or_false, Prod.mk.injEq] at hm hm'
          rcases hm with ⟨rfl, rfl, rfl⟩ | ⟨rfl, rfl, rfl⟩ | ⟨rfl, rfl, rfl⟩ | ⟨rfl, rfl, rfl⟩ <;> rcases hm' with ⟨rfl, rfl, rfl⟩ | ⟨rfl, rfl, rfl⟩ | ⟨rfl, rfl, rfl⟩ | ⟨rfl, rfl, rfl⟩ <;> decide +kernel) (alike_RR (s1 := Str.empty) (tlo1 := 0) (thi1 := 0) (s2 := Str.empty) (tlo2 := 0) (thi2 := 0) oi oi a1 a2 a3 hu k01 k02 k03 b1 b2 b3 hu' k01 k02 k03)
      · rw [eb] at a3
        rw [eb'] at b3
        exact Con.same (by
          simp only [List.mem_cons, List.not_mem_nil, or_false, Prod.mk.injEq] at hm hm'
          rcases hm with ⟨rfl, rfl, rfl⟩ | ⟨rfl, rfl, rfl⟩ | ⟨rfl, rfl, rfl⟩ | ⟨rfl, rfl, rfl⟩ <;> rcases hm' with ⟨rfl, rfl⟩ | ⟨rfl, rfl⟩ | ⟨rfl, rfl⟩ <;> decide +kernel) (alike_RN (s1 := Str.empty) (tlo1 := 0) (thi1 := 0) (tlo2 := 0) (thi2 := 0) (hi2 := 0) oi oi ok' a1 a2 a3 hu k01 k02 k03 b1 b2 b3 hu' k01 k02 k03)
      · rw [eb] at a3
        exact Con.same (by
          simp only [List.mem_cons, List.not_mem_nil, or_false, Prod.mk.injEq] at hm
          rcases hm with ⟨rfl, rfl⟩ | ⟨rfl, rfl⟩ | ⟨rfl, rfl⟩ <;> decide +kernel) (alike_Nn (tlo1 := 0) (thi1 := 0) (hi1 := 0) (s2 := Str.empty) (b2 := 0) (u2 := 0) (v2 := 0) (w2 := 0) (l2 := .none) (h2 := .none) oi oi ok a1 a2 a3 hu k01 k02 k03 b1 b2 b3 k01 k02 k03)
      · rw [eb] at a3
        rw [eb'] at b3
        exact Con.same (by
          simp only [List.mem_cons, List.not_mem_nil, or_false, Prod.mk.injEq] at hm hm'
          rcases hm with ⟨rfl, rfl⟩ | ⟨rfl, rfl⟩ | ⟨rfl, rfl⟩ <;> rcases hm' with ⟨rfl, rfl, rfl⟩ | ⟨rfl, rfl, rfl⟩ | ⟨rfl, rfl, rfl⟩ | ⟨rfl, rfl, rfl⟩ <;> decide +kernel) (alike_NR (tlo1 := 0) (thi1 := 0) (hi1 := 0) (s2 := Str.empty) (tlo2 := 0) (thi2 := 0) oi oi ok a1 a2 a3 hu k01 k02 k03 b1 b2 b3 hu' k01 k02 k03)
      · rw [eb] at a3
        rw [eb'] at b3
        exact Con.same (by
          simp only [List.mem_cons, List.not_mem_nil, or_false, Prod.mk.injEq] at hm hm'
          rcases hm with ⟨rfl, rfl⟩ | ⟨rfl, rfl⟩ | ⟨rfl, rfl⟩ <;> rcases hm' with ⟨rfl, rfl⟩ | ⟨rfl, rfl⟩ | ⟨rfl, rfl⟩ <;> decide +kernel) (alike_NN (tlo1 := 0) (thi1 := 0) (hi1 := 0) (tlo2 := 0) (thi2 := 0) (hi2 := 0) oi oi ok ok' a1 a2 a3 hu k01 k02 k03 b1 b2 b3 hu' k01 k02 k03)
section
local macro_rules | `(tactic| k_get) => `(tactic| with_reducible assumption)
theorem CompAt.show {w : World} {K0 K1 K2 K3 c : Addr} {news : List (Addr × Obj)} {p : Int} (hK : Kinds news K0 K1 K2 K3) (h : CompAt w K0 K1 K2 K3 news c p) :
    ∃ (dc T dT : Addr) (ec eT : List DictEntry) (k : Str) (lo hi ix cp : Value), (c, instObj 53 dc) ∈ news ∧ (dc, dictOf ec 2) ∈ news ∧ getL (Str.ofString "type") ec = some (some (.ref T)) ∧ (T, instObj 32 dT) ∈ news ∧ (dT, dictOf eT 24) ∈ news ∧ TyG k (31 + big p) .none lo hi ix cp eT := by
  cases h with
  | @low dc es p h1 h2 h3 h0 h8 =>
    obtain ⟨d, e, tlo, thi, ix, cp, g1, g2, g3⟩ := hK.k0
    have hb : (31 : Int) = 31 + big p := by have : big p = 0 := if_neg (by omega); omega
    rw [hb] at g3
    exact ⟨dc, K0, d, es, e, _, _, _, ix, cp, h1, h2, h3.ty, g1, g2, g3⟩
  | @enum dc es h1 h2 h3 =>
    obtain ⟨d, e, tlo, thi, ix, cp, g1, g2, g3⟩ := hK.k3
    exact ⟨dc, K3, d, es, e, _, _, _, ix, cp, h1, h2, h3.ty, g1, g2, g3⟩
theorem CompAt.mono {w : World} {K0 K1 K2 K3 c : Addr} {news news' : List (Addr × Obj)} {p : Int} (h : CompAt w K0 K1 K2 K3 news c p) (s : ∀ q ∈ news, q ∈ news') : CompAt w K0 K1 K2 K3 news' c p := by
  cases h with
  | low h1 h2 h3 h0 h8 => exact .low (s _ h1) (s _ h2) h3 h0 h8
  | enum h1 h2 h3 => exact .enum (s _ h1) (s _ h2) h3
theorem bigEq {p1 p2 : Int} (h : (31 + big p1 == 31 + big p2) = true) : big p1 = big p2 := by
  have := beq_iff_eq.mp h
  omega
noncomputable def pv : List Int → List Int → Bool
  | [], [] => true
  | i :: r, j :: s => cv i j && pv r s
  | _, _ => false
noncomputable def rv (js1 : List Int) (p1 : Int) (js2 : List Int) (p2 : Int) : Bool := decide (big p1 = big p2) && decide (cls p1 = cls p2) && pv js1 js2
local macro_rules | `(tactic| lcg_off) => `(tactic| exact OffR.out (by with_reducible assumption))
theorem compEnd1 {h₀ : Heap} {L I C D : Addr} {m : Str → Option Value} {s₁ : Shared} {oI oC oD : Obj} {S : List (Addr × Obj) → Prop} {rest : Value → List (Addr × Obj) → Prop} {y : Value} {h' : Heap} {tk : Nat} {n : List (Addr × Obj)} {a : Addr × Obj}
    (F : Fr h₀ L h' m) (N : News h₀ L h' (a :: (I, oI) :: (C, oC) :: (D, oD) :: n)) (off : LCg.Off3 I C D (a :: n)) (hS : S (a :: n)) (r : rest y (a :: n)) :
    LCg.CompEnd h₀ L m s₁ I oI C oC D oD S rest y { s₁ with heap := h', toks := tk } := LCg.CompEnd.intro F N (a :: n) (fun p h => by
      simp only [List.mem_cons] at h ⊢
      rcases h with h | h | h | h | h <;> simp [h]) off hS r
theorem list_item {prog : Program} {w : World} {A : Around} {E : Value → Shared → Prop} {s : Shared} {h₀ : Heap} {L : Addr} {news : List (Addr × Obj)} {value slice : PySem.Expr} {k : Addr} {its : Array Value} {n : Nat} {i : Int} {u : Tok} {v : Value} {Q : Value → Shared → Prop} (N : News h₀ L s.heap news)
    (hm : (k, W.listOf its n) ∈ news) (j : Nat) (hi : i = (j : Int)) (hj : (j : Int) < 2 ^ 63) (hx : its[j]? = some v) (h : Q v s)
    (hs : subscripted slice false (.ref k) (.int i u) = operate [.ref k, .int i u] (getItem (.ref k) (.int i u)) := by with_unfolding_all rfl) : wpAny (model prog w) A (subscriptTail value slice (.ref k) (.int i u)) Q E s := by
  subst hi
  exact tail_any (N.isList hm).typeIs slot_list_getitem.lookup (wpAny_getItem_list (N.isList hm) (Int.natCast_nonneg j) hj hx h) hs
theorem at_10 {a : Value} : (#[a] : Array Value)[0]? = some a := rfl
theorem at_20 {a b : Value} : (#[a, b] : Array Value)[0]? = some a := rfl
theorem at_21 {a b : Value} : (#[a, b] : Array Value)[1]? = some b := rfl
theorem eq_lens {prog : Program} {w : World} {A : Around} {E : Value → Shared → Prop} {s : Shared} {Q : Value → Shared → Prop} {a b : Addr} {xs ys : Array Value} (ha : s.heap.IsList a xs) (hb : s.heap.IsList b ys) (hz : (xs.size != ys.size) = true) (hu : A.units + 64 < cLine) (h : Q (.bool false) s) :
    wpAny (model prog w) A (compareOp .Eq (.ref a) (.ref b)) Q E s := PySem.SeqAt.eq_list_lengthsAt ha hb hz (by omega) h
theorem rv_big {js1 js2 : List Int} {p1 p2 : Int} (h : ¬31 + big p1 = 31 + big p2) : false = rv js1 p1 js2 p2 := by
  have : ¬ big p1 = big p2 := fun e => h (by rw [e])
  simp [rv, this]
theorem rv_cls {js1 js2 : List Int} {p1 p2 : Int} (h : ¬cls p1 = cls p2) : false = rv js1 p1 js2 p2 := by simp [rv, h]
theorem rv_12 {i j j' p1 p2 : Int} : false = rv [i] p1 [j, j'] p2 := by simp [rv, pv]
theorem rv_21 {i i' j p1 p2 : Int} : false = rv [i, i'] p1 [j] p2 := by simp [rv, pv]
theorem rv_11t {i j p1 p2 : Int} (h : 31 + big p1 = 31 + big p2) (k : cls p1 = cls p2) (v : cv i j = true) : true = rv [i] p1 [j] p2 := by
  have : big p1 = big p2 := by omega
  simp [rv, pv, this, k, v]
theorem rv_11f {i j p1 p2 : Int} (v : cv i j = false) : false = rv [i] p1 [j] p2 := by simp [rv, pv, v]
theorem rv_22t {i i' j j' p1 p2 : Int} (h : 31 + big p1 = 31 + big p2) (k : cls p1 = cls p2) (v : cv i j = true) (v' : cv i' j' = true) : true = rv [i, i'] p1 [j, j'] p2 := by
  have : big p1 = big p2 := by omega
  simp [rv, pv, this, k, v, v']
theorem rv_22f {i i' j j' p1 p2 : Int} (v : cv i j = false) : false = rv [i, i'] p1 [j, j'] p2 := by simp [rv, pv, v]
theorem rv_22g {i i' j j' p1 p2 : Int} (v : cv i' j' = false) : false = rv [i, i'] p1 [j, j'] p2 := by simp [rv, pv, v]
theorem rows_11 {w : World} {loose : List Str} {mean : ExcName → Option Value} {mg mb : Str → Option Value} {news : List (Addr × Obj)} {x1 d1 : Addr} {e1 : List DictEntry} {x2 d2 : Addr} {e2 : List DictEntry} {K0 K1 K2 K3 li1 li2 c1 c2 s1 s2 t1 t2 : Addr} {i1 i2 j1 j2 : Int} {nn1 nn2 : Nat} {p1 p2 : Int} {k1 k2 : Str} {n1 n2 : Int} {r1 l1 h1 r2 l2 h2 : Value} (hK : Kinds news K0 K1 K2 K3)
    (hx1 : (x1, instObj 32 d1) ∈ news) (hd1 : (d1, dictOf e1 24) ∈ news) (hE1 : TyG k1 n1 r1 l1 h1 (.ref li1) (.ref c1) e1) (hx2 : (x2, instObj 32 d2) ∈ news) (hd2 : (d2, dictOf e2 24) ∈ news) (hE2 : TyG k2 n2 r2 l2 h2 (.ref li2) (.ref c2) e2) (b1 : (li1, W.listOf #[.ref s1] nn1) ∈ news) (b2 : (li2, W.listOf #[.ref t1] nn2) ∈ news) (ms1 : MkAt w K0 K1 K2 K3 news s1 i1) (mt1 : MkAt w K0 K1 K2 K3 news t1 j1) (hc1 : CompAt w K0 K1 K2 K3 news c1 p1) (hc2 : CompAt w K0 K1 K2 K3 news c2 p2) :
    Con PySem.Challenge.rw_rg0005_01.row.prog w (KK w.params) VV loose mean mg mb 200 2000 206 [.ref x1, .ref x2] news (fun r news' => r = .bool (rv [i1] p1 [j1] p2) ∧ news' = news) := by
  k_with_none
  (k_with "call ref" => (k_here; (with_reducible show wpAny _ _ (call (Value.ref 106) _) _ _ _); k_dflt (refine' Con.use (same_con ?a1zz ?a2zz ?a3zz ?a4zz ?a5zz ?a6zz) ?c1 ?c2 ?c3 ?c4 ?c5 ?c6 ?c7 ?c8 ?_; tbn_conj; (case a1zz => k_mem); (case a2zz => k_mem); (case a3zz => with_reducible assumption); (case a4zz => k_mem); (case a5zz => k_mem); (case a6zz => with_reducible assumption); k_whole); intro r' nw' h' tk' hR' F' N'; obtain ⟨hr', hn'⟩ := hR'; subst hr'; subst hn'; (try k_sweep)))
  (k_with "call ref" => (k_here; (with_reducible show wpAny _ _ (call (Value.ref 201) _) _ _ _); k_dflt (refine' Con.use (alike_con (Kinds.mono ?a1zz ?b1zz) (CompAt.mono ?a2zz ?b2zz) (CompAt.mono ?a3zz ?b3zz) ?a4zz) ?c1 ?c2 ?c3 ?c4 ?c5 ?c6 ?c7 ?c8 ?_; tbn_conj; (case a1zz => with_reducible assumption); (case a2zz => with_reducible assumption); (case a3zz => with_reducible assumption); (case b1zz => tb_start); (case b2zz => tb_start); (case b3zz => tb_start); (case a4zz => omega); k_whole); intro r' nw' h' tk' hR' F' N'; obtain ⟨hr', hn'⟩ := hR'; subst hr'; subst hn'; (try k_sweep)))
  (k_with "call ref" => (k_here; (with_reducible show wpAny _ _ (call (Value.ref 211) _) _ _ _); k_dflt (refine' Con.use (sc_con (Kinds.mono ?a1zz ?a2zz) ?a3zz ?a4zz ?a5zz ?a6zz) ?c1 ?c2 ?c3 ?c4 ?c5 ?c6 ?c7 ?c8 ?_; tbn_conj; (case a1zz => with_reducible assumption); (case a2zz => tb_start); (case a3zz => with_reducible assumption); (case a4zz => with_reducible assumption); (case a5zz => with_reducible assumption); (case a6zz => with_reducible assumption); k_whole); intro r' nw' h' tk' hR' F' N'; obtain ⟨hr', hn'⟩ := hR'; subst hr'; subst hn'; (try k_sweep)))
  (k_with "CompSrc" => (k_here; k_dflt (first | (refine LCg.CompSrc.ledger (by rfl) (by k_asm) (by k_asm) (by k_mem) (by first | size_fits | exact Nat.le_of_ble_eq_true rfl) ?_; intro g'; lcg_lit) | (refine LCg.CompSrc.range (by rfl) (by k_asm) (by k_asm) (by assumption) (by first | decide | rfl) (by first | rfl | decide) (by first | size_fits | exact Nat.le_of_ble_eq_true rfl) ?_; intro g'; lcg_lit))))
  (k_with "CompRest" => (with_unfolding_all first | (refine LCg.CompRest.succ ?_; intro v' I' oI' C' oC' D' m' h' tk' E' hv' hC' hx' F' N' off' ne'; (first | lcg_open hv' | (obtain ⟨t9', hv9'⟩ := hv'; subst hv9')); (have off0 := OffR.mk off'); (replace off' := OffS.mk off'); (iterate 25 (try replace off0 := off0.tail)); clear ne') | refine LCg.CompRest.zero ?_))
  (k_with "CompEnd" => (k_dflt (first | (refine' compEnd0 ?Fzz ?Nzz ?offzz ?Szz ?_; (case Fzz => k_asm); (case Nzz => k_asm); (case offzz => lcg_off); (case Szz => lcg_src)) | (refine' compEnd2 ?Fzz ?Nzz ?offzz ?Szz ?_; (case Fzz => k_asm); (case Nzz => k_asm); (case offzz => lcg_off); (case Szz => lcg_src)))))
  (k_with "FinA" => ((unfold LCg.FinA); intro D' h' tk' F' N' o1'; (replace o1' := OffO.mk o1'); (try simp only [List.nil_append, List.cons_append] at N'); (try dsimp only)))
  (k_with "FinE" => ((unfold LCg.FinE); intro D' h' tk' F' N' o1'; (replace o1' := OffO.mk o1'); (try simp only [List.nil_append, List.cons_append] at N'); (try dsimp only)))
  (k_with "CompRestT" => (with_unfolding_all first | (refine LCt.CompRestT.succ ?_; intro v' I' oI' C' oC' D' m' h' tk' E' hv' hC' hx' F' N' off' ne'; (first | lcg_open hv' | (obtain ⟨t9', hv9'⟩ := hv'; subst hv9')); (have off0 := OffR.mk off'); (replace off' := OffS.mk off'); (iterate 25 (try replace off0 := off0.tail)); clear ne') | refine LCt.CompRestT.zero ?_))
  (k_with "CompEnd" => (k_dflt (first | (refine' compEnd0 ?Fzz ?Nzz ?offzz ?Szz ?_; (case Fzz => k_asm); (case Nzz => k_asm); (case offzz => lcg_off); (case Szz => lcg_src)) | (refine' compEnd1 ?Fzz ?Nzz ?offzz ?Szz ?_; (case Fzz => k_asm); (case Nzz => k_asm); (case offzz => lcg_off); (case Szz => lcg_src)) | (refine' compEnd2 ?Fzz ?Nzz ?offzz ?Szz ?_; (case Fzz => k_asm); (case Nzz => k_asm); (case offzz => lcg_off); (case Szz => lcg_src)))))
  (k_with "subscriptTail" => (k_here; (with_reducible show wpAny _ _ (subscriptTail _ _ (Value.ref _) (Value.int _ _)) _ _ _); k_dflt (first | (refine' list_item ?Nzz ?mzz 0 ?azz ?bzz at_10 ?_; (case Nzz => k_asm); (case mzz => k_mem); (case azz => decide); (case bzz => decide); k_whole) | (refine' list_item ?Nzz ?mzz 0 ?azz ?bzz at_20 ?_; (case Nzz => k_asm); (case mzz => k_mem); (case azz => decide); (case bzz => decide); k_whole) | (refine' list_item ?Nzz ?mzz 1 ?azz ?bzz at_21 ?_; (case Nzz => k_asm); (case mzz => k_mem); (case azz => decide); (case bzz => decide); k_whole))))
  (k_with "compareOp Eq ref ref" => (k_here; (with_reducible show wpAny _ _ (compareOp CmpOp.Eq (Value.ref _) (Value.ref _)) _ _ _); k_dflt (refine' eq_lens ?azz ?bzz ?zzz ?uzz ?_; (case azz => exact News.isList (by k_asm) (by k_mem)); (case bzz => exact News.isList (by k_asm) (by k_mem)); (case zzz => exact rfl); (case uzz => ke_room))))
  cases ms1 with | mk u11 u12 u13 u10 u14 =>
  have u15 := u13.ty
  cases mt1 with | mk v11 v12 v13 v10 v14 =>
  have v15 := v13.ty
  obtain ⟨dc1, T1, dT1, ec1, eT1, kT1, lT1, hT1, iT1, cT1, g1, g2, g3, g4, g5, g6⟩ := hc1.show hK
  obtain ⟨dc2, T2, dT2, ec2, eT2, kT2, lT2, hT2, iT2, cT2, g1', g2', g3', g4', g5', g6'⟩ := hc2.show hK
  have hi1 := hE1.index
  have hi2 := hE2.index
  have hq1 := hE1.component
  have hq2 := hE2.component
  unfold Con
  k_fill
  intro dp un gd cn cs a ccd cl outer A₀ base h₀ L m s Q E B F X N T hk hd hu ret
  refine wpAny_call ?_
  k_dflt (refine' code_defC ?k1 ?k2 ?k3 ?k4 ?k5 ?kA ?kF ?kK ?k6 ?k7 ?k8 ?k9 ?kB ?kD ?_ ?c2 ?c3 ?c4; (case kA => exact rfl); (case kF => exact rfl); (case kK => assumption); (case k1 => k_asm); (case k2 => k_asm); (case k3 => k_asm); (case k4 => k_asm); (case k5 => k_asm); (case k6 => k_is); (case k7 => k_is); (case k8 => k_room); (case k9 => exact BindsTo.of_eq rfl); (case kB => exact rfl); (case kD => decide +kernel); (case c2 => exact rfl); (case c3 => exact rfl); (case c4 => exact rfl); k_whole; intro g' L' h' tk' cells' FG' F' N' Y' B' X' T' l1; (have lc1 := LtAll.mk (all_succ l1)); (have lc2 := LtAll.cons (o := default) lc1 (Nat.lt_succ_self (L' + 1))); (replace l1 := LtAll.mk l1); (have l1t := LtAll.ne l1); (iterate 25 (try replace l1t := l1t.tail)); k_cells Y'; (try simp only [List.cons_append, List.nil_append] at N'); (try dsimp only); (try k_lift B'); (try k_fold))
  k_steps
  all_goals
    refine' ret _ _ _ _ ⟨congrArg Value.bool ?e, rfl⟩ ?F ?N
    case F => k_asm
    case N => exact newsSub (by k_asm) (by tb_start)
    case e => first | exact rv_big (by with_reducible assumption) | exact rv_cls (by with_reducible assumption) | exact rv_12 | exact rv_21 | exact rv_11t (by with_reducible assumption) (by with_reducible assumption) (by with_reducible assumption) | exact rv_11f (by with_reducible assumption) | exact rv_22t (by with_reducible assumption) (by with_reducible assumption) (by with_reducible assumption) (by with_reducible assumption) | exact rv_22f (by with_reducible assumption) | exact rv_22g (by with_reducible assumption)
theorem rows_12 {w : World} {loose : List Str} {mean : ExcName → Option Value} {mg mb : Str → Option Value} {news : List (Addr × Obj)} {x1 d1 : Addr} {e1 : List DictEntry} {x2 d2 : Addr} {e2 : List DictEntry} {K0 K1 K2 K3 li1 li2 c1 c2 s1 s2 t1 t2 : Addr} {i1 i2 j1 j2 : Int} {nn1 nn2 : Nat} {p1 p2 : Int} {k1 k2 : Str} {n1 n2 : Int} {r1 l1 h1 r2 l2 h2 : Value} (hK : Kinds news K0 K1 K2 K3)
    (hx1 : (x1, instObj 32 d1) ∈ news) (hd1 : (d1, dictOf e1 24) ∈ news) (hE1 : TyG k1 n1 r1 l1 h1 (.ref li1) (.ref c1) e1) (hx2 : (x2, instObj 32 d2) ∈ news) (hd2 : (d2, dictOf e2 24) ∈ news) (hE2 : TyG k2 n2 r2 l2 h2 (.ref li2) (.ref c2) e2) (b1 : (li1, W.listOf #[.ref s1] nn1) ∈ news) (b2 : (li2, W.listOf #[.ref t1, .ref t2] nn2) ∈ news) (ms1 : MkAt w K0 K1 K2 K3 news s1 i1) (mt1 : MkAt w K0 K1 K2 K3 news t1 j1) (mt2 : MkAt w K0 K1 K2 K3 news t2 j2) (hc1 : CompAt w K0 K1 K2 K3 news c1 p1) (hc2 : CompAt w K0 K1 K2 K3 news c2 p2) :
    Con PySem.Challenge.rw_rg0005_01.row.prog w (KK w.params) VV loose mean mg mb 200 2000 206 [.ref x1, .ref x2] news (fun r news' => r = .bool (rv [i1] p1 [j1, j2] p2) ∧ news' = news) := by
  cases ms1 with | mk u11 u12 u13 u10 u14 =>
  have u15 := u13.ty
  cases mt1 with | mk v11 v12 v13 v10 v14 =>
  have v15 := v13.ty
  cases mt2 with | mk v21 v22 v23 v20 v24 =>
  have v25 := v23.ty
  obtain ⟨dc1, T1, dT1, ec1, eT1, kT1, lT1, hT1, iT1, cT1, g1, g2, g3, g4, g5, g6⟩ := hc1.show hK
  obtain ⟨dc2, T2, dT2, ec2, eT2, kT2, lT2, hT2, iT2, cT2, g1', g2', g3', g4', g5', g6'⟩ := hc2.show hK
  have hi1 := hE1.index
  have hi2 := hE2.index
  have hq1 := hE1.component
  have hq2 := hE2.component
  unfold Con
  k_fill
  intro dp un gd cn cs a ccd cl outer A₀ base h₀ L m s Q E B F X N T hk hd hu ret
  refine wpAny_call ?_
  k_dflt (refine' code_defC ?k1 ?k2 ?k3 ?k4 ?k5 ?kA ?kF ?kK ?k6 ?k7 ?k8 ?k9 ?kB ?kD ?_ ?c2 ?c3 ?c4; (case kA => exact rfl); (case kF => exact rfl); (case kK => assumption); (case k1 => k_asm); (case k2 => k_asm); (case k3 => k_asm); (case k4 => k_asm); (case k5 => k_asm); (case k6 => k_is); (case k7 => k_is); (case k8 => k_room); (case k9 => exact BindsTo.of_eq rfl); (case kB => exact rfl); (case kD => decide +kernel); (case c2 => exact rfl); (case c3 => exact rfl); (case c4 => exact rfl); k_whole; intro g' L' h' tk' cells' FG' F' N' Y' B' X' T' l1; (have lc1 := LtAll.mk (all_succ l1)); (have lc2 := LtAll.cons (o := default) lc1 (Nat.lt_succ_self (L' + 1))); (replace l1 := LtAll.mk l1); (have l1t := LtAll.ne l1); (iterate 25 (try replace l1t := l1t.tail)); k_cells Y'; (try simp only [List.cons_append, List.nil_append] at N'); (try dsimp only); (try k_lift B'); (try k_fold))
  k_steps
  all_goals
    refine' ret _ _ _ _ ⟨congrArg Value.bool ?e, rfl⟩ ?F ?N
    case F => k_asm
    case N => exact newsSub (by k_asm) (by tb_start)
    case e => first | exact rv_big (by with_reducible assumption) | exact rv_cls (by with_reducible assumption) | exact rv_12 | exact rv_21 | exact rv_11t (by with_reducible assumption) (by with_reducible assumption) (by with_reducible assumption) | exact rv_11f (by with_reducible assumption) | exact rv_22t (by with_reducible assumption) (by with_reducible assumption) (by with_reducible assumption) (by with_reducible assumption) | exact rv_22f (by with_reducible assumption) | exact rv_22g (by with_reducible assumption)
theorem rows_21 {w : World} {loose : List Str} {mean : ExcName → Option Value} {mg mb : Str → Option Value} {news : List (Addr × Obj)} {x1 d1 : Addr} {e1 : List DictEntry} {x2 d2 : Addr} {e2 : List DictEntry} {K0 K1 K2 K3 li1 li2 c1 c2 s1 s2 t1 t2 : Addr} {i1 i2 j1 j2 : Int} {nn1 nn2 : Nat} {p1 p2 : Int} {k1 k2 : Str} {n1 n2 : Int} {r1 l1 h1 r2 l2 h2 : Value} (hK : Kinds news K0 K1 K2 K3)
    (hx1 : (x1, instObj 32 d1) ∈ news) (hd1 : (d1, dictOf e1 24) ∈ news) (hE1 : TyG k1 n1 r1 l1 h1 (.ref li1) (.ref c1) e1) (hx2 : (x2, instObj 32 d2) ∈ news) (hd2 : (d2, dictOf e2 24) ∈ news) (hE2 : TyG k2 n2 r2 l2 h2 (.ref li2) (.ref c2) e2) (b1 : (li1, W.listOf #[.ref s1, .ref s2] nn1) ∈ news) (b2 : (li2, W.listOf #[.ref t1] nn2) ∈ news) (ms1 : MkAt w K0 K1 K2 K3 news s1 i1) (ms2 : MkAt w K0 K1 K2 K3 news s2 i2) (mt1 : MkAt w K0 K1 K2 K3 news t1 j1) (hc1 : CompAt w K0 K1 K2 K3 news c1 p1) (hc2 : CompAt w K0 K1 K2 K3 news c2 p2) :
    Con PySem.Challenge.rw_rg0005_01.row.prog w (KK w.params) VV loose mean mg mb 200 2000 206 [.ref x1, .ref x2] news (fun r news' => r = .bool (rv [i1, i2] p1 [j1] p2) ∧ news' = news) := by
  cases ms1 with | mk u11 u12 u13 u10 u14 =>
  have u15 := u13.ty
  cases ms2 with | mk u21 u22 u23 u20 u24 =>
  have u25 := u23.ty
  cases mt1 with | mk v11 v12 v13 v10 v14 =>
  have v15 := v13.ty
  obtain ⟨dc1, T1, dT1, ec1, eT1, kT1, lT1, hT1, iT1, cT1, g1, g2, g3, g4, g5, g6⟩ := hc1.show hK
  obtain ⟨dc2, T2, dT2, ec2, eT2, kT2, lT2, hT2, iT2, cT2, g1', g2', g3', g4', g5', g6'⟩ := hc2.show hK
  have hi1 := hE1.index
  have hi2 := hE2.index
  have hq1 := hE1.component
  have hq2 := hE2.component
  unfold Con
  k_fill
  intro dp un gd cn cs a ccd cl outer A₀ base h₀ L m s Q E B F X N T hk hd hu ret
  refine wpAny_call ?_
  k_dflt (refine' code_defC ?k1 ?k2 ?k3 ?k4 ?k5 ?kA ?kF ?kK ?k6 ?k7 ?k8 ?k9 ?kB ?kD ?_ ?c2 ?c3 ?c4; (case kA => exact rfl); (case kF => exact rfl); (case kK => assumption); (case k1 => k_asm); (case k2 => k_asm); (case k3 => k_asm); (case k4 => k_asm); (case k5 => k_asm); (case k6 => k_is); (case k7 => k_is); (case k8 => k_room); (case k9 => exact BindsTo.of_eq rfl); (case kB => exact rfl); (case kD => decide +kernel); (case c2 => exact rfl); (case c3 => exact rfl); (case c4 => exact rfl); k_whole; intro g' L' h' tk' cells' FG' F' N' Y' B' X' T' l1; (have lc1 := LtAll.mk (all_succ l1)); (have lc2 := LtAll.cons (o := default) lc1 (Nat.lt_succ_self (L' + 1))); (replace l1 := LtAll.mk l1); (have l1t := LtAll.ne l1); (iterate 25 (try replace l1t := l1t.tail)); k_cells Y'; (try simp only [List.cons_append, List.nil_append] at N'); (try dsimp only); (try k_lift B'); (try k_fold))
  k_steps
  all_goals
    refine' ret _ _ _ _ ⟨congrArg Value.bool ?e, rfl⟩ ?F ?N
    case F => k_asm
    case N => exact newsSub (by k_asm) (by tb_start)
    case e => first | exact rv_big (by with_reducible assumption) | exact rv_cls (by with_reducible assumption) | exact rv_12 | exact rv_21 | exact rv_11t (by with_reducible assumption) (by with_reducible assumption) (by with_reducible assumption) | exact rv_11f (by with_reducible assumption) | exact rv_22t (by with_reducible assumption) (by with_reducible assumption) (by with_reducible assumption) (by with_reducible assumption) | exact rv_22f (by with_reducible assumption) | exact rv_22g (by with_reducible assumption)
theorem rows_22 {w : World} {loose : List Str} {mean : ExcName → Option Value} {mg mb : Str → Option Value} {news : List (Addr × Obj)} {x1 d1 : Addr} {e1 : List DictEntry} {x2 d2 : Addr} {e2 : List DictEntry} {K0 K1 K2 K3 li1 li2 c1 c2 s1 s2 t1 t2 : Addr} {i1 i2 j1 j2 : Int} {nn1 nn2 : Nat} {p1 p2 : Int} {k1 k2 : Str} {n1 n2 : Int} {r1 l1 h1 r2 l2 h2 : Value} (hK : Kinds news K0 K1 K2 K3)
    (hx1 : (x1, instObj 32 d1) ∈ news) (hd1 : (d1, dictOf e1 24) ∈ news) (hE1 : TyG k1 n1 r1 l1 h1 (.ref li1) (.ref c1) e1) (hx2 : (x2, instObj 32 d2) ∈ news) (hd2 : (d2, dictOf e2 24) ∈ news) (hE2 : TyG k2 n2 r2 l2 h2 (.ref li2) (.ref c2) e2) (b1 : (li1, W.listOf #[.ref s1, .ref s2] nn1) ∈ news) (b2 : (li2, W.listOf #[.ref t1, .ref t2] nn2) ∈ news) (ms1 : MkAt w K0 K1 K2 K3 news s1 i1) (ms2 : MkAt w K0 K1 K2 K3 news s2 i2) (mt1 : MkAt w K0 K1 K2 K3 news t1 j1) (mt2 : MkAt w K0 K1 K2 K3 news t2 j2) (hc1 : CompAt w K0 K1 K2 K3 news c1 p1) (hc2 : CompAt w K0 K1 K2 K3 news c2 p2) :
    Con PySem.Challenge.rw_rg0005_01.row.prog w (KK w.params) VV loose mean mg mb 200 2000 206 [.ref x1, .ref x2] news (fun r news' => r = .bool (rv [i1, i2] p1 [j1, j2] p2) ∧ news' = news) := by
  cases ms1 with | mk u11 u12 u13 u10 u14 =>
  have u15 := u13.ty
  cases ms2 with | mk u21 u22 u23 u20 u24 =>
  have u25 := u23.ty
  cases mt1 with | mk v11 v12 v13 v10 v14 =>
  have v15 := v13.ty
  cases mt2 with | mk v21 v22 v23 v20 v24 =>
  have v25 := v23.ty
  obtain ⟨dc1, T1, dT1, ec1, eT1, kT1, lT1, hT1, iT1, cT1, g1, g2, g3, g4, g5, g6⟩ := hc1.show hK
  obtain ⟨dc2, T2, dT2, ec2, eT2, kT2, lT2, hT2, iT2, cT2, g1', g2', g3', g4', g5', g6'⟩ := hc2.show hK
  have hi1 := hE1.index
  have hi2 := hE2.index
  have hq1 := hE1.component
  have hq2 := hE2.component
  unfold Con
  k_fill
  intro dp un gd cn cs a ccd cl outer A₀ base h₀ L m s Q E B F X N T hk hd hu ret
  refine wpAny_call ?_
  k_dflt (refine' code_defC ?k1 ?k2 ?k3 ?k4 ?k5 ?kA ?kF ?kK ?k6 ?k7 ?k8 ?k9 ?kB ?kD ?_ ?c2 ?c3 ?c4; (case kA => exact rfl); (case kF => exact rfl); (case kK => assumption); (case k1 => k_asm); (case k2 => k_asm); (case k3 => k_asm); (case k4 => k_asm); (case k5 => k_asm); (case k6 => k_is); (case k7 => k_is); (case k8 => k_room); (case k9 => exact BindsTo.of_eq rfl); (case kB => exact rfl); (case kD => decide +kernel); (case c2 => exact rfl); (case c3 => exact rfl); (case c4 => exact rfl); k_whole; intro g' L' h' tk' cells' FG' F' N' Y' B' X' T' l1; (have lc1 := LtAll.mk (all_succ l1)); (have lc2 := LtAll.cons (o := default) lc1 (Nat.lt_succ_self (L' + 1))); (replace l1 := LtAll.mk l1); (have l1t := LtAll.ne l1); (iterate 25 (try replace l1t := l1t.tail)); k_cells Y'; (try simp only [List.cons_append, List.nil_append] at N'); (try dsimp only); (try k_lift B'); (try k_fold))
  k_steps
  all_goals
    refine' ret _ _ _ _ ⟨congrArg Value.bool ?e, rfl⟩ ?F ?N
    case F => k_asm
    case N => exact newsSub (by k_asm) (by tb_start)
    case e => first | exact rv_big (by with_reducible assumption) | exact rv_cls (by with_reducible assumption) | exact rv_12 | exact rv_21 | exact rv_11t (by with_reducible assumption) (by with_reducible assumption) (by with_reducible assumption) | exact rv_11f (by with_reducible assumption) | exact rv_22t (by with_reducible assumption) (by with_reducible assumption) (by with_reducible assumption) (by with_reducible assumption) | exact rv_22f (by with_reducible assumption) | exact rv_22g (by with_reducible assumption)
end
section
local macro_rules | `(tactic| k_get) => `(tactic| with_reducible assumption)
local macro_rules | `(tactic| lcg_off) => `(tactic| exact OffR.out (by with_reducible assumption))
theorem rows_con {w : World} {loose : List Str} {mean : ExcName → Option Value} {mg mb : Str → Option Value} {news : List (Addr × Obj)} {x1 d1 : Addr} {e1 : List DictEntry} {x2 d2 : Addr} {e2 : List DictEntry} {K0 K1 K2 K3 li1 li2 c1 c2 : Addr} {js1 js2 : List Int} {p1 p2 : Int} {k1 k2 : Str} {n1 n2 : Int} {r1 l1 h1 r2 l2 h2 : Value} (hK : Kinds news K0 K1 K2 K3)
    (hx1 : (x1, instObj 32 d1) ∈ news) (hd1 : (d1, dictOf e1 24) ∈ news) (hE1 : TyG k1 n1 r1 l1 h1 (.ref li1) (.ref c1) e1) (hx2 : (x2, instObj 32 d2) ∈ news) (hd2 : (d2, dictOf e2 24) ∈ news) (hE2 : TyG k2 n2 r2 l2 h2 (.ref li2) (.ref c2) e2) (hm1 : Marks w K0 K1 K2 K3 news li1 js1) (hm2 : Marks w K0 K1 K2 K3 news li2 js2) (hc1 : CompAt w K0 K1 K2 K3 news c1 p1) (hc2 : CompAt w K0 K1 K2 K3 news c2 p2) :
    Con PySem.Challenge.rw_rg0005_01.row.prog w (KK w.params) VV loose mean mg mb 200 2000 206 [.ref x1, .ref x2] news (fun r news' => r = .bool (rv js1 p1 js2 p2) ∧ news' = news) := by
  cases hm1 with
  | one b1 m1 =>
    cases hm2 with
    | one b2 m2 => exact rows_11 (s2 := 0) (t2 := 0) (i2 := 0) (j2 := 0) hK hx1 hd1 hE1 hx2 hd2 hE2 b1 b2 m1 m2 hc1 hc2
    | two b2 m2 m2' => exact rows_12 (s2 := 0) (i2 := 0) hK hx1 hd1 hE1 hx2 hd2 hE2 b1 b2 m1 m2 m2' hc1 hc2
  | two b1 m1 m1' =>
    cases hm2 with
    | one b2 m2 => exact rows_21 (t2 := 0) (j2 := 0) hK hx1 hd1 hE1 hx2 hd2 hE2 b1 b2 m1 m1' m2 hc1 hc2
    | two b2 m2 m2' => exact rows_22 hK hx1 hd1 hE1 hx2 hd2 hE2 b1 b2 m1 m1' m2 m2' hc1 hc2
theorem MkAt.mono {w : World} {K0 K1 K2 K3 s : Addr} {i : Int} {ns ns' : List (Addr × Obj)} (h : MkAt w K0 K1 K2 K3 ns s i) (k : ∀ q ∈ ns, q ∈ ns') : MkAt w K0 K1 K2 K3 ns' s i := by
  cases h with | mk h1 h2 h3 h0 h4 => exact .mk (k _ h1) (k _ h2) h3 h0 h4
theorem Marks.mono {w : World} {K0 K1 K2 K3 s : Addr} {js : List Int} {ns ns' : List (Addr × Obj)} (h : Marks w K0 K1 K2 K3 ns s js) (k : ∀ q ∈ ns, q ∈ ns') : Marks w K0 K1 K2 K3 ns' s js := by
  cases h with
  | one h m => exact .one (k _ h) (m.mono k)
  | two h m m' => exact .two (k _ h) (m.mono k) (m'.mono k)
theorem Ints.mono {s : Addr} {js : List Int} {ns ns' : List (Addr × Obj)} (h : Ints ns s js) (k : ∀ q ∈ ns, q ∈ ns') : Ints ns' s js := by
  cases h with
  | one h => exact .one (k _ h)
  | two h => exact .two (k _ h)
theorem ArrAt.mono {w : World} {K0 K1 K2 K3 x : Addr} {num p : Int} {par : Value} {js : List Int} {ns ns' : List (Addr × Obj)} (h : ArrAt w K0 K1 K2 K3 ns num par x js p) (k : ∀ q ∈ ns, q ∈ ns') : ArrAt w K0 K1 K2 K3 ns' num par x js p := by
  cases h with | mk hx hd hE hq ho hm hc => exact .mk (k _ hx) (k _ hd) hE (k _ hq) ho (hm.mono k) (hc.mono k)
theorem RowAt.mono {w : World} {K0 K1 K2 K3 tu x : Addr} {num p : Int} {js : List Int} {ns ns' : List (Addr × Obj)} (h : RowAt w K0 K1 K2 K3 ns num tu x js p) (k : ∀ q ∈ ns, q ∈ ns') : RowAt w K0 K1 K2 K3 ns' num tu x js p := by
  cases h with | mk ht hi ha hb hc => exact .mk (k _ ht) (hi.mono k) (ha.mono k) hb hc
theorem ic_rows {w : World} {loose : List Str} {mean : ExcName → Option Value} {mg mb : Str → Option Value} {news : List (Addr × Obj)} {x1 d1 : Addr} {e1 : List DictEntry} {x2 d2 : Addr} {e2 : List DictEntry} {K0 K1 K2 K3 li1 li2 m1 m2 : Addr} {js1 js2 : List Int} {p1 p2 : Int} {k1 k2 k3 k4 : Str} {n1 n2 n3 n4 : Int} {l1 h1 i1 q1 l2 h2 i2 q2 l3 h3 i3 q3 l4 h4 i4 q4 : Value} (hb1 : NumK k1 false) (hb2 : NumK k2 false) (hc1 : (k1 == Str.ofString "class") = false) (hc2 : (k2 == Str.ofString "class") = false) (hka : (k1 == Str.ofString "array") = true) (hkb : (k2 == Str.ofString "array") = true) (hi1 : ([n2].any fun y => y == n1) = false)
    (hK : Kinds news K0 K1 K2 K3) (hm1 : Marks w K0 K1 K2 K3 news li1 js1) (hm2 : Marks w K0 K1 K2 K3 news li2 js2) (hp1 : CompAt w K0 K1 K2 K3 news m1 p1) (hp2 : CompAt w K0 K1 K2 K3 news m2 p2)
    (hx1 : (x1, instObj 32 d1) ∈ news) (hd1 : (d1, dictOf e1 24) ∈ news) (hE1 : TyG k1 n1 .none l1 h1 (.ref li1) (.ref m1) e1) (hx2 : (x2, instObj 32 d2) ∈ news) (hd2 : (d2, dictOf e2 24) ∈ news) (hE2 : TyG k2 n2 .none l2 h2 (.ref li2) (.ref m2) e2) :
    Con PySem.Challenge.rw_rg0005_01.row.prog w (KK w.params) VV loose mean mg mb 400 4000 211 [.ref x1, .ref x2] news (fun r news' => r = .bool (rv js1 p1 js2 p2) ∧ news' = news) := by
  k_with_none
  (k_with "call ref" => (k_here; (with_reducible show wpAny _ _ (call (Value.ref 120) _) _ _ _); k_dflt (refine' Con.use (numeric_any ?k0zz ?a1zz ?a2zz ?a3zz) ?c1 ?c2 ?c3 ?c4 ?c5 ?c6 ?c7 ?c8 ?_; tbn_conj; (case a1zz => k_mem); (case a2zz => k_mem); (case a3zz => with_reducible assumption); (case k0zz => with_reducible assumption); k_whole); intro r' nw' h' tk' hR' F' N'; obtain ⟨hr', hn'⟩ := hR'; subst hr'; subst hn'; (try k_sweep)))
  (k_with "call ref" => (k_here; (with_reducible show wpAny _ _ (call (Value.ref 187) _) _ _ _); k_dflt (refine' Con.use (shown1_con ?a1zz ?a2zz ?a3zz) ?c1 ?c2 ?c3 ?c4 ?c5 ?c6 ?c7 ?c8 ?_; tbn_conj; (case a1zz => k_mem); (case a2zz => k_mem); (case a3zz => with_reducible assumption); k_whole); intro r' nw' h' tk' hR' F' N'; obtain ⟨D', t', e', hr', hn', l1⟩ := hR'; subst hr'; subst hn'; (try k_sweep)))
  (k_with "call ref" => (k_here; (with_reducible show wpAny _ _ (call (Value.ref 187) _) _ _ _); k_dflt (refine' Con.use (shown2_con ?a1zz ?a2zz ?a3zz ?a4zz ?a5zz ?a6zz) ?c1 ?c2 ?c3 ?c4 ?c5 ?c6 ?c7 ?c8 ?_; tbn_conj; (case a1zz => k_mem); (case a2zz => k_mem); (case a3zz => with_reducible assumption); (case a4zz => k_mem); (case a5zz => k_mem); (case a6zz => with_reducible assumption); k_whole); intro r' nw' h' tk' hR' F' N'; obtain ⟨D', t', t2', e', hr', hn', l1⟩ := hR'; subst hr'; subst hn'; (try k_sweep)))
  (k_with "compareOp Eq str str" => (k_here; k_dflt (refine' eq_str_known ?hzz ?_; (case hzz => with_reducible assumption))))
  (k_with "CompSrc" => (k_here; k_dflt (first | (refine LCg.CompSrc.ledger (by rfl) (by k_asm) (by k_asm) (by k_mem) (by first | size_fits | exact Nat.le_of_ble_eq_true rfl) ?_; intro g'; lcg_lit) | (refine LCg.CompSrc.range (by rfl) (by k_asm) (by k_asm) (by assumption) (by first | decide | rfl) (by first | rfl | decide) (by first | size_fits | exact Nat.le_of_ble_eq_true rfl) ?_; intro g'; lcg_lit))))
  (k_with "CompRest" => (with_unfolding_all first | (refine LCg.CompRest.succ ?_; intro v' I' oI' C' oC' D' m' h' tk' E' hv' hC' hx' F' N' off' ne'; (first | lcg_open hv' | (obtain ⟨t9', hv9'⟩ := hv'; subst hv9')); (have off0 := OffR.mk off'); (replace off' := OffS.mk off'); (iterate 25 (try replace off0 := off0.tail)); clear ne') | refine LCg.CompRest.zero ?_))
  (k_with "CompEnd" => (k_dflt (first | (refine' compEnd0 ?Fzz ?Nzz ?offzz ?Szz ?_; (case Fzz => k_asm); (case Nzz => k_asm); (case offzz => lcg_off); (case Szz => lcg_src)) | (refine' compEnd2 ?Fzz ?Nzz ?offzz ?Szz ?_; (case Fzz => k_asm); (case Nzz => k_asm); (case offzz => lcg_off); (case Szz => lcg_src)))))
  (k_with "FinA" => ((unfold LCg.FinA); intro D' h' tk' F' N' o1'; (replace o1' := OffO.mk o1'); (try simp only [List.nil_append, List.cons_append] at N'); (try dsimp only)))
  (k_with "FinE" => ((unfold LCg.FinE); intro D' h' tk' F' N' o1'; (replace o1' := OffO.mk o1'); (try simp only [List.nil_append, List.cons_append] at N'); (try dsimp only)))
  (k_with "CompRestT" => (with_unfolding_all first | (refine LCt.CompRestT.succ ?_; intro v' I' oI' C' oC' D' m' h' tk' E' hv' hC' hx' F' N' off' ne'; (first | lcg_open hv' | (obtain ⟨t9', hv9'⟩ := hv'; subst hv9')); (have off0 := OffR.mk off'); (replace off' := OffS.mk off'); (iterate 25 (try replace off0 := off0.tail)); clear ne') | refine LCt.CompRestT.zero ?_))
  (k_with "compareOp In int ref" => (k_here; (with_reducible show wpAny _ _ (compareOp CmpOp.In (Value.int _ _) (Value.ref _)) _ _ _); k_dflt (refine' in_known ?lzz ?izz ?bzz ?_; (case lzz => exact News.isList (by k_asm) (by k_mem)); (case izz => ((repeat constructor); done)); (case bzz => with_reducible assumption))))
  (k_with "compareOp NotEq ref ref" => (k_here; (with_reducible show wpAny _ _ (compareOp CmpOp.NotEq (Value.ref _) (Value.ref _)) _ _ _); k_dflt (refine' ne_nil ?azz ?bzz ?izz ?uzz ?_; (case azz => exact News.isList (by k_asm) (by k_mem)); (case bzz => exact News.isList (by k_asm) (by k_mem)); (case izz => ((repeat constructor); done)); (case uzz => ke_room))))
  (k_with "call ref" => (k_here; (with_reducible show wpAny _ _ (call (Value.ref 206) _) _ _ _); k_dflt (refine' Con.use (rows_con (Kinds.mono ?a1zz ?b1zz) ?d1zz ?d2zz ?d3zz ?d4zz ?d5zz ?d6zz (Marks.mono ?a2zz ?b2zz) (Marks.mono ?a3zz ?b3zz) (CompAt.mono ?a4zz ?b4zz) (CompAt.mono ?a5zz ?b5zz)) ?c1 ?c2 ?c3 ?c4 ?c5 ?c6 ?c7 ?c8 ?_; tbn_conj; (case d1zz => k_mem); (case d2zz => k_mem); (case d3zz => with_reducible assumption); (case d4zz => k_mem); (case d5zz => k_mem); (case d6zz => with_reducible assumption); (case a1zz => with_reducible assumption); (case a2zz => with_reducible assumption); (case a3zz => with_reducible assumption); (case a4zz => with_reducible assumption); (case a5zz => with_reducible assumption); (case b1zz => tb_start); (case b2zz => tb_start); (case b3zz => tb_start); (case b4zz => tb_start); (case b5zz => tb_start); k_whole); intro r' nw' h' tk' hR' F' N'; obtain ⟨hr', hn'⟩ := hR'; subst hr'; subst hn'; (try k_sweep)))
  obtain ⟨tk1, hk1⟩ := hE1.kind
  obtain ⟨tk2, hk2⟩ := hE2.kind
  have ht1 := hE1.tagged
  have ht2 := hE2.tagged
  unfold Con
  k_fill
  intro dp un gd cn cs a ccd cl outer A₀ base h₀ L m s Q E B F X N T hk hd hu ret
  refine wpAny_call ?_
  k_dflt (refine' code_defC ?k1 ?k2 ?k3 ?k4 ?k5 ?kA ?kF ?kK ?k6 ?k7 ?k8 ?k9 ?kB ?kD ?_ ?c2 ?c3 ?c4; (case kA => exact rfl); (case kF => exact rfl); (case kK => assumption); (case k1 => k_asm); (case k2 => k_asm); (case k3 => k_asm); (case k4 => k_asm); (case k5 => k_asm); (case k6 => k_is); (case k7 => k_is); (case k8 => k_room); (case k9 => exact BindsTo.of_eq rfl); (case kB => exact rfl); (case kD => decide +kernel); (case c2 => exact rfl); (case c3 => exact rfl); (case c4 => exact rfl); k_whole; intro g' L' h' tk' cells' FG' F' N' Y' B' X' T' l1; (have lc1 := LtAll.mk (all_succ l1)); (have lc2 := LtAll.cons (o := default) lc1 (Nat.lt_succ_self (L' + 1))); (replace l1 := LtAll.mk l1); (have l1t := LtAll.ne l1); (iterate 25 (try replace l1t := l1t.tail)); k_cells Y'; (try simp only [List.cons_append, List.nil_append] at N'); (try dsimp only); (try k_lift B'); (try k_fold))
  k_steps
  all_goals first | exact ret _ _ _ _ ⟨rfl, rfl⟩ (by k_asm) (newsSub (by k_asm) (by tb_start)) | (exfalso; omega)
end
theorem ltAllMem {l : List (Addr × Obj)} {a d : Addr} {o : Obj} (h : LtAll l a) (hm : (d, o) ∈ l) : d < a := h.out _ hm
theorem dict_nil {prog : Program} {w : World} {A : Around} {E : Value → Shared → Prop} {s : Shared} {h₀ : Heap} {L src : Addr} {m : Str → Option Value} {news : List (Addr × Obj)} {oo : Obj} {Q : Value → Shared → Prop} (F : Fr h₀ L s.heap m) (N : News h₀ L s.heap news) (hbig : h₀.NoLimit) (hm : (src, oo) ∈ news) (h1 : 1 < src) (ho : Obj.IsDictOf (PySem.strKind prog w) oo [])
    (k : ∀ d h' o, Fr h₀ L h' m → News h₀ L h' ((d, o) :: news) → LtAll news d → Obj.IsDictOf (PySem.strKind prog w) o [] → Q (.ref d) { s with heap := h' }) : wpAny (model prog w) A (call (.type "dict") [.ref src]) Q E s :=
  kt_dict_K (knd := PySem.strKind prog w) (enc := PyData.str) (D := []) F N hbig (TabAt.ofNews N hm (beq_eq_false_iff_ne.mpr (Nat.ne_of_gt h1)) ho .nil) (Nat.zero_le _) fun d h' o kvs F' N' l _ hd hf => by
    cases hf
    exact k d h' o F' N' ⟨l⟩ hd
theorem derived_con {w : World} {loose : List Str} {mean : ExcName → Option Value} {mg mb : Str → Option Value} {news : List (Addr × Obj)} {x dx : Addr} {k : Str} {num : Int} {par : Value} {li c : Addr} {ops : Addr} {es : List DictEntry} {oo : Obj} {nm : Str} {t : Tok}
    (hx0 : (x, instObj 32 dx) ∈ news) (hd0 : (dx, dictOf es 24) ∈ news) (hE0 : TyE w k num par .none .none (.ref li) (.ref c) ops es) (h10 : 1 < ops) (hq0 : (ops, oo) ∈ news) (ho0 : Obj.IsDictOf (PySem.strKind PySem.Challenge.rw_rg0005_01.row.prog w) oo []) :
    Con PySem.Challenge.rw_rg0005_01.row.prog w (KK w.params) VV loose mean mg mb 40 400 92 [.ref x, .str nm t] news
      (fun r news' => NewTy w k 0 (.ref x) .none .none (.ref li) (.ref c) news r news') := by
  k_with_none
  (k_with "call ref" => (k_here; (with_reducible show wpAny _ _ (call (Value.ref 32) _) _ _ _); k_dflt (refine' Con.use type_con ?c1 ?c2 ?c3 ?c4 ?c5 ?c6 ?c7 ?c8 ?_; tbn_conj; k_whole); intro r' nw' h' tk' hR' F' N'; obtain ⟨ix', ⟨x', dx', ops', es', oo', hr', hn', hE', ho', l1, l2, l3⟩⟩ := hR'; subst hr'; subst hn'; (replace l1 := LtAll.mk l1); (have lx := LtAll.cons (o := dictOf es' 24) l1 l2); (have lo := LtAll.cons (o := instObj 32 dx') lx l3); (have l1t := LtAll.ne l1); (iterate 25 (try replace l1t := l1t.tail)); cases hE'; (try k_sweep)))
  (k_with "call type:dict" => (k_here; (with_reducible show wpAny _ _ (call (Value.type "dict") [Value.ref _]) _ _ _); k_dflt (refine' dict_nil ?Fzz ?Nzz ?bzz ?mzz ?lzz ?ozz ?_; (case Fzz => k_asm); (case Nzz => k_asm); (case bzz => exact Top.nolimit (by k_asm)); (case mzz => k_mem); (case lzz => with_reducible assumption); (case ozz => with_reducible assumption)); intro d' h' o' F' N' l1 ho'; (have l1t := LtAll.ne l1); (iterate 25 (try replace l1t := l1t.tail)); (try k_sweep)))
  cases hE0
  unfold Con
  k_fill
  intro dp un gd cn cs a ccd cl outer A₀ base h₀ L m s Q E B F X N T hk hd hu ret
  refine wpAny_call ?_
  k_dflt cell_enter
  k_steps
  refine' newTy_out (news := news) ?N ?hx ?hd ?hE ?hm ?ho ?hn ?l1 ?l2 ?h3 ?k
  case N => k_asm
  case hx => k_mem
  case hd => k_mem
  case hE => exact TyE.mk _ _ _ _ _ _ _ _ _ _ _ _ _ _ _ _ _ _ _ _ _ _ _ _ _ _ _ _ _ _ _ _ _ _ _
  case hm => k_mem
  case ho => with_reducible assumption
  case hn => tb_start
  case l1 => exact LtAll.out (by with_reducible assumption)
  case l2 => with_reducible assumption
  case h3 => exact ltAllMem (by with_reducible assumption) (by k_mem)
  exact fun nw hR N1 => ret _ nw _ _ hR (by k_asm) N1
end
inductive DerX (w : World) (ns : List (Addr × Obj)) (num : Int) (x : Addr) : Addr → Prop
  | mk {y dy ops : Addr} {ix cp : Value} {es : List DictEntry} (hx : (y, instObj 32 dy) ∈ ns) (hd : (dy, dictOf es 24) ∈ ns) (hE : TyE w (Str.ofString "array") num (.ref x) .none .none ix cp ops es) : DerX w ns num x y
theorem ic_AA {w : World} {loose : List Str} {mean : ExcName → Option Value} {mg mb : Str → Option Value} {news T : List (Addr × Obj)} {K0 K1 K2 K3 : Addr} {lk : List (Addr × Obj)} (hK : Kinds lk K0 K1 K2 K3) (sk : ∀ q ∈ lk, q ∈ news) {x1 : Addr} {num1 p1 : Int} {js1 : List Int} (hA1 : ArrX w K0 K1 K2 K3 T num1 .none x1 js1 p1) {x2 : Addr} {num2 p2 : Int} {js2 : List Int} (hA2 : ArrX w K0 K1 K2 K3 T num2 .none x2 js2 p2) (sT : ∀ q ∈ T, q ∈ news) {b : Bool} (hn : ([num2].any fun y => y == num1) = false) (e : rv js1 p1 js2 p2 = b) :
    Con PySem.Challenge.rw_rg0005_01.row.prog w (KK w.params) VV loose mean mg mb 400 4000 211 [.ref x1, .ref x2] news (fun r news' => r = .bool b ∧ news' = news) := by
  cases hA1 with | mk a1 b1 c1 e1 f1 g1 m1 p1' =>
  cases hA2 with | mk a2 b2 c2 e2 f2 g2 m2 p2' =>
  exact Con.same e (ic_rows (k3 := Str.empty) (n3 := 0) (l3 := .none) (h3 := .none) (i3 := .none) (q3 := .none) (k4 := Str.empty) (n4 := 0) (l4 := .none) (h4 := .none) (i4 := .none) (q4 := .none) (i1 := .none) (q1 := .none) (i2 := .none) (q2 := .none) nk_array nk_array nc_array nc_array na_array na_array hn (hK.mono sk) (m1.mono sT) (m2.mono sT) (p1'.mono sT) (p2'.mono sT) (sT _ a1) (sT _ b1) c1.get (sT _ a2) (sT _ b2) c2.get)
theorem ic_AS {w : World} {loose : List Str} {mean : ExcName → Option Value} {mg mb : Str → Option Value} {news T : List (Addr × Obj)} {K0 K1 K2 K3 : Addr} {x1 : Addr} {num1 p1 : Int} {js1 : List Int} (hA1 : ArrX w K0 K1 K2 K3 T num1 .none x1 js1 p1) (sT : ∀ q ∈ T, q ∈ news) :
    Con PySem.Challenge.rw_rg0005_01.row.prog w (KK w.params) VV loose mean mg mb 100 1000 211 [.ref x1, .ref x1] news (fun r news' => r = .bool true ∧ news' = news) := by
  cases hA1 with | mk a1 b1 c1 e1 f1 g1 m1 p1' =>
  exact ic_F11c (k3 := Str.empty) (n3 := 0) (l3 := .none) (h3 := .none) (i3 := .none) (q3 := .none) (k4 := Str.empty) (n4 := 0) (l4 := .none) (h4 := .none) (i4 := .none) (q4 := .none) nk_array nk_array nc_array nc_array (by simp) (sT _ a1) (sT _ b1) c1.get (sT _ a1) (sT _ b1) c1.get
theorem ic_KA {w : World} {loose : List Str} {mean : ExcName → Option Value} {mg mb : Str → Option Value} {news T : List (Addr × Obj)} {K0 K1 K2 K3 : Addr} {lk : List (Addr × Obj)} (hK : Kinds lk K0 K1 K2 K3) (sk : ∀ q ∈ lk, q ∈ news) {x1 : Addr} {num1 p1 : Int} {js1 : List Int} (hA1 : ArrX w K0 K1 K2 K3 T num1 .none x1 js1 p1) (sT : ∀ q ∈ T, q ∈ news) (hn : ([num1].any fun y => y == 31) = false) :
    Con PySem.Challenge.rw_rg0005_01.row.prog w (KK w.params) VV loose mean mg mb 100 1000 211 [.ref K0, .ref x1] news (fun r news' => r = .bool false ∧ news' = news) := by
  cases hA1 with | mk a1 b1 c1 e1 f1 g1 m1 p1' =>
  obtain ⟨dk, ek, tlo, thi, ixk, cpk, g1, g2, g3⟩ := hK.k0
  exact ic_T11n (k3 := Str.empty) (n3 := 0) (l3 := .none) (h3 := .none) (i3 := .none) (q3 := .none) (k4 := Str.empty) (n4 := 0) (l4 := .none) (h4 := .none) (i4 := .none) (q4 := .none) nk_int nk_array nc_int nc_array na_int hn (sk _ g1) (sk _ g2) g3 (sT _ a1) (sT _ b1) c1.get
theorem ic_AK {w : World} {loose : List Str} {mean : ExcName → Option Value} {mg mb : Str → Option Value} {news T : List (Addr × Obj)} {K0 K1 K2 K3 : Addr} {lk : List (Addr × Obj)} (hK : Kinds lk K0 K1 K2 K3) (sk : ∀ q ∈ lk, q ∈ news) {x1 : Addr} {num1 p1 : Int} {js1 : List Int} (hA1 : ArrX w K0 K1 K2 K3 T num1 .none x1 js1 p1) (sT : ∀ q ∈ T, q ∈ news) (hn : ([33].any fun y => y == num1) = false) :
    Con PySem.Challenge.rw_rg0005_01.row.prog w (KK w.params) VV loose mean mg mb 100 1000 211 [.ref x1, .ref K2] news (fun r news' => r = .bool false ∧ news' = news) := by
  cases hA1 with | mk a1 b1 c1 e1 f1 g1 m1 p1' =>
  obtain ⟨dk, ek, tlo, thi, ixk, cpk, g1, g2, g3⟩ := hK.k2
  exact ic_F11a (k3 := Str.empty) (n3 := 0) (l3 := .none) (h3 := .none) (i3 := .none) (q3 := .none) (k4 := Str.empty) (n4 := 0) (l4 := .none) (h4 := .none) (i4 := .none) (q4 := .none) nk_array nk_mod nc_array nc_mod na_array na_mod hn (sT _ a1) (sT _ b1) c1.get (sk _ g1) (sk _ g2) g3
theorem ic_DA {w : World} {loose : List Str} {mean : ExcName → Option Value} {mg mb : Str → Option Value} {news T : List (Addr × Obj)} {K0 K1 K2 K3 : Addr} {x1 : Addr} {num1 p1 : Int} {js1 : List Int} (hA1 : ArrX w K0 K1 K2 K3 T num1 .none x1 js1 p1) (sT : ∀ q ∈ T, q ∈ news) {lg2 : List (Addr × Obj)} {x2 : Addr} {num2 : Int} (hD2 : DerX w lg2 num2 x1 x2) (sg2 : ∀ q ∈ lg2, q ∈ news) (hn : ([num1].any fun y => y == num2) = false) :
    Con PySem.Challenge.rw_rg0005_01.row.prog w (KK w.params) VV loose mean mg mb 100 1000 211 [.ref x2, .ref x1] news (fun r news' => r = .bool true ∧ news' = news) := by
  cases hA1 with | mk a1 b1 c1 e1 f1 g1 m1 p1' =>
  cases hD2 with | mk a2 b2 c2 =>
  exact ic_F21c (k4 := Str.empty) (n4 := 0) (l4 := .none) (h4 := .none) (i4 := .none) (q4 := .none) nk_array nk_array nc_array nc_array hn (by simp) (sg2 _ a2) (sg2 _ b2) c2.get (sT _ a1) (sT _ b1) c1.get (sT _ a1) (sT _ b1) c1.get
theorem ic_AD {w : World} {loose : List Str} {mean : ExcName → Option Value} {mg mb : Str → Option Value} {news T : List (Addr × Obj)} {K0 K1 K2 K3 : Addr} {x1 : Addr} {num1 p1 : Int} {js1 : List Int} (hA1 : ArrX w K0 K1 K2 K3 T num1 .none x1 js1 p1) (sT : ∀ q ∈ T, q ∈ news) {lg2 : List (Addr × Obj)} {x2 : Addr} {num2 : Int} (hD2 : DerX w lg2 num2 x1 x2) (sg2 : ∀ q ∈ lg2, q ∈ news) :
    Con PySem.Challenge.rw_rg0005_01.row.prog w (KK w.params) VV loose mean mg mb 100 1000 211 [.ref x1, .ref x2] news (fun r news' => r = .bool true ∧ news' = news) := by
  cases hA1 with | mk a1 b1 c1 e1 f1 g1 m1 p1' =>
  cases hD2 with | mk a2 b2 c2 =>
  exact ic_F12c (k3 := Str.empty) (n3 := 0) (l3 := .none) (h3 := .none) (i3 := .none) (q3 := .none) nk_array nk_array nc_array nc_array (by simp) (sT _ a1) (sT _ b1) c1.get (sg2 _ a2) (sg2 _ b2) c2.get (sT _ a1) (sT _ b1) c1.get
theorem ic_DD {w : World} {loose : List Str} {mean : ExcName → Option Value} {mg mb : Str → Option Value} {news T : List (Addr × Obj)} {K0 K1 K2 K3 : Addr} {x1 : Addr} {num1 p1 : Int} {js1 : List Int} (hA1 : ArrX w K0 K1 K2 K3 T num1 .none x1 js1 p1) (sT : ∀ q ∈ T, q ∈ news) {lg2 : List (Addr × Obj)} {x2 : Addr} {num2 : Int} (hD2 : DerX w lg2 num2 x1 x2) (sg2 : ∀ q ∈ lg2, q ∈ news) {lg3 : List (Addr × Obj)} {x3 : Addr} {num3 : Int} (hD3 : DerX w lg3 num3 x1 x3) (sg3 : ∀ q ∈ lg3, q ∈ news) (hn : ([num3, num1].any fun y => y == num2) = false) :
    Con PySem.Challenge.rw_rg0005_01.row.prog w (KK w.params) VV loose mean mg mb 100 1000 211 [.ref x2, .ref x3] news (fun r news' => r = .bool true ∧ news' = news) := by
  cases hA1 with | mk a1 b1 c1 e1 f1 g1 m1 p1' =>
  cases hD2 with | mk a2 b2 c2 =>
  cases hD3 with | mk a3 b3 c3 =>
  exact ic_F22c nk_array nk_array nc_array nc_array hn (by simp) (sg2 _ a2) (sg2 _ b2) c2.get (sg3 _ a3) (sg3 _ b3) c3.get (sT _ a1) (sT _ b1) c1.get (sT _ a1) (sT _ b1) c1.get
theorem ic_DS {w : World} {loose : List Str} {mean : ExcName → Option Value} {mg mb : Str → Option Value} {news T : List (Addr × Obj)} {K0 K1 K2 K3 : Addr} {x1 : Addr} {num1 p1 : Int} {js1 : List Int} (hA1 : ArrX w K0 K1 K2 K3 T num1 .none x1 js1 p1) (sT : ∀ q ∈ T, q ∈ news) {lg2 : List (Addr × Obj)} {x2 : Addr} {num2 : Int} (hD2 : DerX w lg2 num2 x1 x2) (sg2 : ∀ q ∈ lg2, q ∈ news) :
    Con PySem.Challenge.rw_rg0005_01.row.prog w (KK w.params) VV loose mean mg mb 100 1000 211 [.ref x2, .ref x2] news (fun r news' => r = .bool true ∧ news' = news) := by
  cases hA1 with | mk a1 b1 c1 e1 f1 g1 m1 p1' =>
  cases hD2 with | mk a2 b2 c2 =>
  exact ic_F22s nk_array nk_array nc_array nc_array (by simp) (by simp) (sg2 _ a2) (sg2 _ b2) c2.get (sg2 _ a2) (sg2 _ b2) c2.get (sT _ a1) (sT _ b1) c1.get (sT _ a1) (sT _ b1) c1.get
theorem ic_KD {w : World} {loose : List Str} {mean : ExcName → Option Value} {mg mb : Str → Option Value} {news T : List (Addr × Obj)} {K0 K1 K2 K3 : Addr} {lk : List (Addr × Obj)} (hK : Kinds lk K0 K1 K2 K3) (sk : ∀ q ∈ lk, q ∈ news) {x1 : Addr} {num1 p1 : Int} {js1 : List Int} (hA1 : ArrX w K0 K1 K2 K3 T num1 .none x1 js1 p1) (sT : ∀ q ∈ T, q ∈ news) {lg2 : List (Addr × Obj)} {x2 : Addr} {num2 : Int} (hD2 : DerX w lg2 num2 x1 x2) (sg2 : ∀ q ∈ lg2, q ∈ news) (hn : ([num2, num1].any fun y => y == 31) = false) :
    Con PySem.Challenge.rw_rg0005_01.row.prog w (KK w.params) VV loose mean mg mb 100 1000 211 [.ref K0, .ref x2] news (fun r news' => r = .bool false ∧ news' = news) := by
  cases hA1 with | mk a1 b1 c1 e1 f1 g1 m1 p1' =>
  cases hD2 with | mk a2 b2 c2 =>
  obtain ⟨dk, ek, tlo, thi, ixk, cpk, g1, g2, g3⟩ := hK.k0
  exact ic_T12n (k3 := Str.empty) (n3 := 0) (l3 := .none) (h3 := .none) (i3 := .none) (q3 := .none) nk_int nk_array nc_int nc_array na_int hn (sk _ g1) (sk _ g2) g3 (sg2 _ a2) (sg2 _ b2) c2.get (sT _ a1) (sT _ b1) c1.get
theorem ic_DK {w : World} {loose : List Str} {mean : ExcName → Option Value} {mg mb : Str → Option Value} {news T : List (Addr × Obj)} {K0 K1 K2 K3 : Addr} {lk : List (Addr × Obj)} (hK : Kinds lk K0 K1 K2 K3) (sk : ∀ q ∈ lk, q ∈ news) {x1 : Addr} {num1 p1 : Int} {js1 : List Int} (hA1 : ArrX w K0 K1 K2 K3 T num1 .none x1 js1 p1) (sT : ∀ q ∈ T, q ∈ news) {lg2 : List (Addr × Obj)} {x2 : Addr} {num2 : Int} (hD2 : DerX w lg2 num2 x1 x2) (sg2 : ∀ q ∈ lg2, q ∈ news) (hn : ([33].any fun y => y == num2) = false) (hm : ([33].any fun y => y == num1) = false) :
    Con PySem.Challenge.rw_rg0005_01.row.prog w (KK w.params) VV loose mean mg mb 100 1000 211 [.ref x2, .ref K2] news (fun r news' => r = .bool false ∧ news' = news) := by
  cases hA1 with | mk a1 b1 c1 e1 f1 g1 m1 p1' =>
  cases hD2 with | mk a2 b2 c2 =>
  obtain ⟨dk, ek, tlo, thi, ixk, cpk, g1, g2, g3⟩ := hK.k2
  exact ic_F21a (k4 := Str.empty) (n4 := 0) (l4 := .none) (h4 := .none) (i4 := .none) (q4 := .none) nk_array nk_mod nc_array nc_mod na_array na_mod hn hm (sg2 _ a2) (sg2 _ b2) c2.get (sk _ g1) (sk _ g2) g3 (sT _ a1) (sT _ b1) c1.get
structure RvIs (b : Bool) (js1 : List Int) (p1 : Int) (js2 : List Int) (p2 : Int) : Prop where
  one : rv js1 p1 js2 p2 = b
  two : rv js2 p2 js1 p1 = b
theorem rv_comm {js1 js2 : List Int} {p1 p2 : Int} : rv js1 p1 js2 p2 = rv js2 p2 js1 p1 := by
  have hc : ∀ i j, cv i j = cv j i := fun i j => by
    unfold cv
    by_cases h1 : i = 3 <;> by_cases h2 : j = 3 <;> simp [h1, h2]
  have hp : ∀ js1 js2, pv js1 js2 = pv js2 js1 := by
    intro js1
    induction js1 with
    | nil => intro js2; cases js2 <;> rfl
    | cons i r ih => intro js2; cases js2 with
      | nil => rfl
      | cons j s => show (cv i j && pv r s) = (cv j i && pv s r); rw [hc, ih]
  unfold rv
  rw [hp]
  by_cases h1 : big p1 = big p2 <;> by_cases h2 : cls p1 = cls p2 <;> simp [h1, h2, eq_comm]
theorem RvIs.of {b : Bool} {js1 js2 : List Int} {p1 p2 : Int} (h : rv js1 p1 js2 p2 = b) : RvIs b js1 p1 js2 p2 := ⟨h, by rw [rv_comm]; exact h⟩
variable {w : World} {K0 K1 K2 K3 : Addr} {T : List (Addr × Obj)} {n1 n2 x1 x2 : Addr} {p1 p2 b1 b2 c1 c2 : Int} {u v : Value}
theorem rvE_f {m1 m2 : Int} {js1 js2 : List Int} (h1 : ArrX w K0 K1 K2 K3 T m1 u x1 js1 p1) (h2 : ArrX w K0 K1 K2 K3 T m2 v x2 js2 p2) (e : (b1 == b2 && c1 == c2) = false) (q1 : b1 = big p1) (r1 : c1 = cls p1) (q2 : b2 = big p2) (r2 : c2 = cls p2) : RvIs false js1 p1 js2 p2 := by
  subst q1 q2 r1 r2
  refine RvIs.of ?_
  unfold rv
  by_cases h1 : big p1 = big p2 <;> by_cases h2 : cls p1 = cls p2 <;> simp_all
theorem rvE_12 {m1 m2 i j j' : Int} (h1 : ArrX w K0 K1 K2 K3 T m1 u x1 [i] p1) (h2 : ArrX w K0 K1 K2 K3 T m2 v x2 [j, j'] p2) : RvIs false [i] p1 [j, j'] p2 := RvIs.of rv_12.symm
theorem rvE_21 {m1 m2 i i' j : Int} (h1 : ArrX w K0 K1 K2 K3 T m1 u x1 [i, i'] p1) (h2 : ArrX w K0 K1 K2 K3 T m2 v x2 [j] p2) : RvIs false [i, i'] p1 [j] p2 := RvIs.of rv_21.symm
theorem cvT {i j : Int} (h : i = 3 ↔ j = 3) : cv i j = true := decide_eq_true h
theorem cvF {i j : Int} (h : ¬(i = 3 ↔ j = 3)) : cv i j = false := decide_eq_false h
theorem bigOf (e : (b1 == b2 && c1 == c2) = true) (q1 : b1 = big p1) (r1 : c1 = cls p1) (q2 : b2 = big p2) (r2 : c2 = cls p2) : 31 + big p1 = 31 + big p2 ∧ cls p1 = cls p2 := by
  subst q1 q2 r1 r2
  have := Bool.and_eq_true_iff.mp e
  exact ⟨by rw [beq_iff_eq.mp this.1], beq_iff_eq.mp this.2⟩
theorem rvE_11t {m1 m2 i j : Int} (h1 : ArrX w K0 K1 K2 K3 T m1 u x1 [i] p1) (h2 : ArrX w K0 K1 K2 K3 T m2 v x2 [j] p2) (e : (b1 == b2 && c1 == c2) = true) (q1 : b1 = big p1) (r1 : c1 = cls p1) (q2 : b2 = big p2) (r2 : c2 = cls p2) (h : i = 3 ↔ j = 3) : RvIs true [i] p1 [j] p2 :=
  have k := bigOf e q1 r1 q2 r2
  RvIs.of (rv_11t k.1 k.2 (cvT h)).symm
theorem rvE_11f {m1 m2 i j : Int} (h1 : ArrX w K0 K1 K2 K3 T m1 u x1 [i] p1) (h2 : ArrX w K0 K1 K2 K3 T m2 v x2 [j] p2) (h : ¬(i = 3 ↔ j = 3)) : RvIs false [i] p1 [j] p2 := RvIs.of (rv_11f (cvF h)).symm
theorem rvE_22t {m1 m2 i i' j j' : Int} (h1 : ArrX w K0 K1 K2 K3 T m1 u x1 [i, i'] p1) (h2 : ArrX w K0 K1 K2 K3 T m2 v x2 [j, j'] p2) (e : (b1 == b2 && c1 == c2) = true) (q1 : b1 = big p1) (r1 : c1 = cls p1) (q2 : b2 = big p2) (r2 : c2 = cls p2) (h : i = 3 ↔ j = 3) (h' : i' = 3 ↔ j' = 3) : RvIs true [i, i'] p1 [j, j'] p2 :=
  have k := bigOf e q1 r1 q2 r2
  RvIs.of (rv_22t k.1 k.2 (cvT h) (cvT h')).symm
theorem rvE_22f {m1 m2 i i' j j' : Int} (h1 : ArrX w K0 K1 K2 K3 T m1 u x1 [i, i'] p1) (h2 : ArrX w K0 K1 K2 K3 T m2 v x2 [j, j'] p2) (h : ¬(i = 3 ↔ j = 3)) : RvIs false [i, i'] p1 [j, j'] p2 := RvIs.of (rv_22f (cvF h)).symm
theorem rvE_22g {m1 m2 i i' j j' : Int} (h1 : ArrX w K0 K1 K2 K3 T m1 u x1 [i, i'] p1) (h2 : ArrX w K0 K1 K2 K3 T m2 v x2 [j, j'] p2) (h : ¬(i' = 3 ↔ j' = 3)) : RvIs false [i, i'] p1 [j, j'] p2 := RvIs.of (rv_22g (cvF h)).symm
section
local macro_rules | `(tactic| k_mem) => `(tactic| ((fail_if_success (refine' List.Mem.tail _ ?_)); first | exact memOf (by with_reducible assumption) | with_reducible assumption))
local macro_rules | `(tactic| tb_start) => `(tactic| first | exact subRfl | exact subNil | (refine' subCons ?sa ?sb; (case sa => k_mem); (case sb => tb_start)) | (refine' subTail ?sc; (case sc => tb_start)) | fail "tb_start")
local macro_rules | `(tactic| lcg_off) => `(tactic| exact OffR.out (by with_reducible assumption))
structure Held (p : Prop) : Prop where
  out : p
theorem Con.mono {prog : Program} {w : World} {K : Frag} {p : Program} {loose : List Str} {mean : ExcName → Option Value} {mg mb : Str → Option Value} {dN uN : Nat} {f : Addr} {vs : List Value} {news : List (Addr × Obj)} {R R' : Value → List (Addr × Obj) → Prop} (C : Con prog w K p loose mean mg mb dN uN f vs news R) (h : ∀ r n, R r n → R' r n) : Con prog w K p loose mean mg mb dN uN f vs news R' :=
  fun dp un gd cn cs a ccd cl outer A₀ base h₀ L m s Q E B F X N T hk hd hu ret => C dp un gd cn cs a ccd cl outer A₀ base h₀ L m s Q E B F X N T hk hd hu fun r n h' tk hR => ret r n h' tk (h r n hR)
structure NewNe (ns lg : List (Addr × Obj)) : Prop where
  out : ∀ q ∈ ns, ∀ p ∈ lg, p.1 ≠ q.1
theorem NewNe.ne {ns lg : List (Addr × Obj)} {a : Addr} {o : Obj} (h : NewNe ns lg) (hm : (a, o) ∈ lg) : ∀ p ∈ ns, p.1 ≠ a := fun q hq => (h.out q hq (a, o) hm).symm
theorem neApp {l r : List (Addr × Obj)} {a : Addr} (h : ∀ p ∈ l, p.1 ≠ a) (k : ∀ p ∈ r, p.1 ≠ a) : ∀ p ∈ l ++ r, p.1 ≠ a := fun p hp => (List.mem_append.mp hp).elim (h p) (k p)
local macro_rules | `(tactic| k_all) => `(tactic| first | exact NewNe.ne (by with_reducible assumption) (by k_mem) | ((with_reducible refine' neApp ?ka ?kb); (case ka => k_all); (case kb => k_all)))
theorem row_use {w : World} {loose : List Str} {mean : ExcName → Option Value} {mg mb : Str → Option Value} {news : List (Addr × Obj)} {d l k K0 K1 K2 K3 : Addr} {o : Obj} {ws : List Value} {ns : List Int} {b num : Int} {nm : Str} {t3 tm tn : Tok} {nk : Nat} {f : Obj → List (Addr × Obj)}
    (hl : (l, W.listOf ws.toArray 0) ∈ news) (hld : l ≠ d) (hI : IntsAre ws ns) (hn : ns.length ≤ 20)
    (ho : Obj.IsDictOf (PySem.strKind PySem.Challenge.rw_rg0005_01.row.prog w) o [(Str.ofString "cells", .ref l), (Str.ofString "beat", .int b t3)])
    (hb : 0 ≤ b) (hb2 : b ≤ 50) (hk : (k, W.listOf #[.ref K0, .ref K1, .ref K2, .ref K3] nk) ∈ news) (hkd : k ≠ d) (U : UpdF d o news f) :
    Con PySem.Challenge.rw_rg0005_01.row.prog w (KK w.params) VV loose mean mg mb 50 500 231 [.ref d, .ref k, .str nm tm, .int num tn] news (fun r news' => ∃ o' ns' tu x js p b' t', r = .ref tu ∧ RowX w K0 K1 K2 K3 ns' num tu x js p ∧ Obj.IsDictOf (PySem.strKind PySem.Challenge.rw_rg0005_01.row.prog w) o' [(Str.ofString "cells", .ref l), (Str.ofString "beat", .int b' t')] ∧ 0 ≤ b' ∧ b' ≤ b + 5 ∧ NewNe ns' news ∧ news' = f o' ++ ns') := by
  refine Con.mono (row_con hl hld hI hn ho hb hb2 hk hkd U) fun r n hR => ?_
  obtain ⟨o', ns', ⟨tu, x, js, p, b', t', h1, h2, h3, h4, h5⟩, hne, rfl⟩ := hR
  exact ⟨o', ns', tu, x, js, p, b', t', h1, h2, h3, h4, h5, ⟨hne⟩, rfl⟩
theorem RowX.mono {w : World} {K0 K1 K2 K3 tu x : Addr} {num p : Int} {js : List Int} {ns ns' : List (Addr × Obj)} (h : RowX w K0 K1 K2 K3 ns num tu x js p) (k : ∀ q ∈ ns, q ∈ ns') : RowX w K0 K1 K2 K3 ns' num tu x js p := by
  cases h with | mk ht hi ha hb hc =>
  cases ha with | mk hx hd hE hq h1 ho hm hp =>
  exact .mk (k _ ht) (hi.mono k) (.mk (k _ hx) (k _ hd) hE (k _ hq) h1 ho (hm.mono k) (hp.mono k)) hb hc
local macro_rules | `(tactic| kts_caught) => `(tactic| (k_dflt (refine' Con.use (row_use ?a1 ?a2 ?a3 ?a4 ?a5 ?a6 ?a7 ?a8 ?a9 ?a10) ?c1 ?c2 ?c3 ?c4 ?c5 ?c6 ?c7 ?c8 ?_; tbn_conj; (case a10 => k_updF); (case a5 => with_reducible assumption); (case a1 => k_mem); (case a2 => k_ne); (case a3 => with_reducible assumption); (case a4 => omega); (case a6 => omega); (case a7 => omega); (case a8 => k_mem); (case a9 => k_ne); k_whole)))
theorem tup_item {prog : Program} {w : World} {A : Around} {E : Value → Shared → Prop} {s : Shared} {h₀ : Heap} {L : Addr} {news : List (Addr × Obj)} {value slice : PySem.Expr} {t : Addr} {items : Array Value} {n : Nat} {i : Int} {u : Tok} {j : Nat} {x : Value} {Q : Value → Shared → Prop} (N : News h₀ L s.heap news)
    (hm : (t, ({ cls := .type "tuple", data := .seq items n } : Obj)) ∈ news) (hlo : -(2 ^ 63) ≤ i) (hhi : i < 2 ^ 63) (hj : seqIndex? i items.size = some j) (hx : items[j]? = some x) (h : Q x s)
    (hs : subscripted slice false (.ref t) (.int i u) = operate [.ref t, .int i u] (getItem (.ref t) (.int i u)) := by with_unfolding_all rfl) (hg : ∀ r, letTemporaryGo value (.ref t) r = pure () := by intro _; with_unfolding_all rfl) : wpAny (model prog w) A (subscriptTail value slice (.ref t) (.int i u)) Q E s :=
  item_tuple (N.isTup hm) hlo hhi hj hx h hs hg
theorem tup4_0 {prog : Program} {w : World} {A : Around} {E : Value → Shared → Prop} {s : Shared} {h₀ : Heap} {L : Addr} {news : List (Addr × Obj)} {value slice : PySem.Expr} {t : Addr} {a b c d : Value} {n : Nat} {u : Tok} {Q : Value → Shared → Prop} (N : News h₀ L s.heap news)
    (hm : (t, ({ cls := .type "tuple", data := .seq #[a, b, c, d] n } : Obj)) ∈ news) (h : Q a s)
    (hs : subscripted slice false (.ref t) (.int 0 u) = operate [.ref t, .int 0 u] (getItem (.ref t) (.int 0 u)) := by with_unfolding_all rfl) (hg : ∀ r, letTemporaryGo value (.ref t) r = pure () := by intro _; with_unfolding_all rfl) : wpAny (model prog w) A (subscriptTail value slice (.ref t) (.int 0 u)) Q E s :=
  tup_item (j := 0) N hm (by decide) (by decide) rfl rfl h hs hg
theorem tup4_1 {prog : Program} {w : World} {A : Around} {E : Value → Shared → Prop} {s : Shared} {h₀ : Heap} {L : Addr} {news : List (Addr × Obj)} {value slice : PySem.Expr} {t : Addr} {a b c d : Value} {n : Nat} {u : Tok} {Q : Value → Shared → Prop} (N : News h₀ L s.heap news)
    (hm : (t, ({ cls := .type "tuple", data := .seq #[a, b, c, d] n } : Obj)) ∈ news) (h : Q b s)
    (hs : subscripted slice false (.ref t) (.int 1 u) = operate [.ref t, .int 1 u] (getItem (.ref t) (.int 1 u)) := by with_unfolding_all rfl) (hg : ∀ r, letTemporaryGo value (.ref t) r = pure () := by intro _; with_unfolding_all rfl) : wpAny (model prog w) A (subscriptTail value slice (.ref t) (.int 1 u)) Q E s :=
  tup_item (j := 1) N hm (by decide) (by decide) rfl rfl h hs hg
theorem tup2_0 {prog : Program} {w : World} {A : Around} {E : Value → Shared → Prop} {s : Shared} {h₀ : Heap} {L : Addr} {news : List (Addr × Obj)} {value slice : PySem.Expr} {t : Addr} {a b : Value} {n : Nat} {u : Tok} {Q : Value → Shared → Prop} (N : News h₀ L s.heap news)
    (hm : (t, ({ cls := .type "tuple", data := .seq #[a, b] n } : Obj)) ∈ news) (h : Q a s)
    (hs : subscripted slice false (.ref t) (.int 0 u) = operate [.ref t, .int 0 u] (getItem (.ref t) (.int 0 u)) := by with_unfolding_all rfl) (hg : ∀ r, letTemporaryGo value (.ref t) r = pure () := by intro _; with_unfolding_all rfl) : wpAny (model prog w) A (subscriptTail value slice (.ref t) (.int 0 u)) Q E s :=
  tup_item (j := 0) N hm (by decide) (by decide) rfl rfl h hs hg
theorem tup2_1 {prog : Program} {w : World} {A : Around} {E : Value → Shared → Prop} {s : Shared} {h₀ : Heap} {L : Addr} {news : List (Addr × Obj)} {value slice : PySem.Expr} {t : Addr} {a b : Value} {n : Nat} {u : Tok} {Q : Value → Shared → Prop} (N : News h₀ L s.heap news)
    (hm : (t, ({ cls := .type "tuple", data := .seq #[a, b] n } : Obj)) ∈ news) (h : Q b s)
    (hs : subscripted slice false (.ref t) (.int 1 u) = operate [.ref t, .int 1 u] (getItem (.ref t) (.int 1 u)) := by with_unfolding_all rfl) (hg : ∀ r, letTemporaryGo value (.ref t) r = pure () := by intro _; with_unfolding_all rfl) : wpAny (model prog w) A (subscriptTail value slice (.ref t) (.int 1 u)) Q E s :=
  tup_item (j := 1) N hm (by decide) (by decide) rfl rfl h hs hg
theorem list4_0 {prog : Program} {w : World} {A : Around} {E : Value → Shared → Prop} {s : Shared} {h₀ : Heap} {L : Addr} {news : List (Addr × Obj)} {value slice : PySem.Expr} {t : Addr} {a b c d : Value} {n : Nat} {u : Tok} {Q : Value → Shared → Prop} (N : News h₀ L s.heap news) (hm : (t, W.listOf #[a, b, c, d] n) ∈ news) (h : Q a s)
    (hs : subscripted slice false (.ref t) (.int 0 u) = operate [.ref t, .int 0 u] (getItem (.ref t) (.int 0 u)) := by with_unfolding_all rfl) : wpAny (model prog w) A (subscriptTail value slice (.ref t) (.int 0 u)) Q E s :=
  list_item N hm 0 (by decide) (by decide) rfl h hs
theorem list4_2 {prog : Program} {w : World} {A : Around} {E : Value → Shared → Prop} {s : Shared} {h₀ : Heap} {L : Addr} {news : List (Addr × Obj)} {value slice : PySem.Expr} {t : Addr} {a b c d : Value} {n : Nat} {u : Tok} {Q : Value → Shared → Prop} (N : News h₀ L s.heap news) (hm : (t, W.listOf #[a, b, c, d] n) ∈ news) (h : Q c s)
    (hs : subscripted slice false (.ref t) (.int 2 u) = operate [.ref t, .int 2 u] (getItem (.ref t) (.int 2 u)) := by with_unfolding_all rfl) : wpAny (model prog w) A (subscriptTail value slice (.ref t) (.int 2 u)) Q E s :=
  list_item N hm 2 (by decide) (by decide) rfl h hs
theorem off3Cons {I C D : Addr} {p : Addr × Obj} {r : List (Addr × Obj)} (h : p.1 ≠ I ∧ p.1 ≠ C ∧ p.1 ≠ D) (k : LCg.Off3 I C D r) : LCg.Off3 I C D (p :: r) := ⟨h, k⟩
local macro_rules | `(tactic| lcg_off) => `(tactic| first | exact OffS.out (by with_reducible assumption) | ((with_reducible refine' off3Cons ?x (OffS.out (by with_reducible assumption))); (case x => exact ⟨by k_ne, by k_ne, by k_ne⟩)))
theorem slice_tail {prog : Program} {w : World} {A : Around} {E : Value → Shared → Prop} {s : Shared} {h₀ : Heap} {L : Addr} {m : Str → Option Value} {news : List (Addr × Obj)} {value slice : PySem.Expr} {t : Addr} {a b c d : Value} {n : Nat} {u : Tok} {Q : Value → Shared → Prop}
    (F : Fr h₀ L s.heap m) (N : News h₀ L s.heap news) (hm : (t, ({ cls := .type "tuple", data := .seq #[a, b, c, d] n } : Obj)) ∈ news)
    (h : ∀ x h', Fr h₀ L h' m → News h₀ L h' ((x, { cls := .type "tuple", data := .seq #[c, d] }) :: news) → LtAll news x → Q (.ref x) { s with heap := h' })
    (hs : subscripted slice false (.ref t) (.ref s.heap.objs.size) = operate [.ref s.heap.objs.size, .ref t] (getItem (.ref t) (.ref s.heap.objs.size)) := by with_unfolding_all rfl)
    (hg : ∀ r, letTemporaryGo value (.ref t) r = pure () := by intro _; with_unfolding_all rfl) :
    wpAny (model prog w) A (subscriptTail value slice (.ref t) (.ref s.heap.objs.size)) Q E { s with heap := s.heap.push { cls := .type "slice", data := .fields #[.int 2 u, .none, .none] } } :=
  slice_tuple_from (a := 2) F N (N.isTup hm) (by decide) (Nat.le_of_ble_eq_true rfl) (fun h' F' N' => h _ h' F' N' ⟨fun p hp => Nat.lt_succ_of_lt (Heap.lt_size (N p hp).1)⟩) hs hg (Nat.le_of_ble_eq_true rfl)
theorem in_tup_known {prog : Program} {w : World} {A : Around} {E : Value → Shared → Prop} {s : Shared} {Q : Value → Shared → Prop} {h₀ : Heap} {L t : Addr} {news : List (Addr × Obj)} {items : Array Value} {n : Nat} {ys : List Int} {x : Int} {u : Tok} {b : Bool} (N : News h₀ L s.heap news) (hm : (t, ({ cls := .type "tuple", data := .seq items n } : Obj)) ∈ news) (hi : IntsAre items.toList ys) (hb : (ys.any fun y => y == x) = b) (h : Q (.bool b) s) :
    wpAny (model prog w) A (compareOp .In (.int x u) (.ref t)) Q E s := in_tuple_ints (N.isTup hm) hi (by rw [hb]; exact h)
theorem in12_1 {i : Int} (h : i = 1) : ([1, 2].any fun y => y == i) = true := by subst h; decide
theorem in12_2 {i : Int} (h : i = 2) : ([1, 2].any fun y => y == i) = true := by subst h; decide
theorem in12_n {i : Int} (h1 : ¬i = 1) (h2 : ¬i = 2) : ([1, 2].any fun y => y == i) = false := by
  simp only [List.any_cons, List.any_nil, Bool.or_false, Bool.or_eq_false_iff, beq_eq_false_iff_ne]
  exact ⟨fun e => h1 e.symm, fun e => h2 e.symm⟩
theorem in3_split {prog : Program} {w : World} {A : Around} {E : Value → Shared → Prop} {s : Shared} {Q : Value → Shared → Prop} {h₀ : Heap} {L t : Addr} {news : List (Addr × Obj)} {n : Nat} {i j : Int} {u v z : Tok} (N : News h₀ L s.heap news) (hm : (t, ({ cls := .type "tuple", data := .seq #[.int i v, .int j z] n } : Obj)) ∈ news) (h : (i = 3 ∨ j = 3) → Q (.bool true) s) (k : ¬(i = 3 ∨ j = 3) → Q (.bool false) s) :
    wpAny (model prog w) A (compareOp .In (.int 3 u) (.ref t)) Q E s := by
  refine in_tuple_ints (N.isTup hm) (.cons _ _ (.cons _ _ .nil)) ?_
  by_cases e : i = 3 ∨ j = 3
  · have : (([i, j].any fun y => y == 3) : Bool) = true := by simpa using e
    rw [this]; exact h e
  · have : (([i, j].any fun y => y == 3) : Bool) = false := by simpa using e
    rw [this]; exact k e
theorem kinds_use {w : World} {K0 K1 K2 K3 tu x : Addr} {num p : Int} {js : List Int} {ns lg : List (Addr × Obj)} {h₀ h : Heap} {L : Addr} {C : Prop} {d0 d1 d2 d3 o0 o1 o2 o3 : Addr} {e0 e1 e2 e3 : List DictEntry} {a0 b0 a1 b1 a2 b2 a3 b3 : Tok} {i0 c0 i1 c1 i2 c2 i3 c3 : Value} (hX : RowX w K0 K1 K2 K3 ns num tu x js p) (N : News h₀ L h lg)
    (m0 : (K0, instObj 32 d0) ∈ lg) (n0 : (d0, dictOf e0 24) ∈ lg) (t0 : TyE w (Str.ofString "int") 31 .none (.int (-9) a0) (.int 9 b0) i0 c0 o0 e0)
    (m1 : (K1, instObj 32 d1) ∈ lg) (n1 : (d1, dictOf e1 24) ∈ lg) (t1 : TyE w (Str.ofString "int") 32 .none (.int 0 a1) (.int 5 b1) i1 c1 o1 e1)
    (m2 : (K2, instObj 32 d2) ∈ lg) (n2 : (d2, dictOf e2 24) ∈ lg) (t2 : TyE w (Str.ofString "mod") 33 .none (.int 0 a2) (.int 7 b2) i2 c2 o2 e2)
    (m3 : (K3, instObj 32 d3) ∈ lg) (n3 : (d3, dictOf e3 24) ∈ lg) (t3 : TyE w (Str.ofString "enum") 34 .none (.int 0 a3) (.int 2 b3) i3 c3 o3 e3)
    (k : Kinds [(K0, instObj 32 d0), (d0, dictOf e0 24), (K1, instObj 32 d1), (d1, dictOf e1 24), (K2, instObj 32 d2), (d2, dictOf e2 24), (K3, instObj 32 d3), (d3, dictOf e3 24)] K0 K1 K2 K3 → C) : C :=
  k ⟨⟨d0, e0, a0, b0, i0, c0, by simp, by simp, t0.get⟩, ⟨d1, e1, a1, b1, i1, c1, by simp, by simp, t1.get⟩, ⟨d2, e2, a2, b2, i2, c2, by simp, by simp, t2.get⟩, ⟨d3, e3, a3, b3, i3, c3, by simp, by simp, t3.get⟩⟩
local macro_rules | `(tactic| kwd_inv) => `(tactic| (refine' kinds_use ?X ?N ?m0 ?n0 ?t0 ?m1 ?n1 ?t1 ?m2 ?n2 ?t2 ?m3 ?n3 ?t3 ?_; (case X => with_reducible assumption); (case N => k_asm); (case m0 => k_mem); (case n0 => k_mem); (case t0 => with_reducible assumption); (case m1 => k_mem); (case n1 => k_mem); (case t1 => with_reducible assumption); (case m2 => k_mem); (case n2 => k_mem); (case t2 => with_reducible assumption); (case m3 => k_mem); (case n3 => k_mem); (case t3 => with_reducible assumption)))
theorem slim_use {w : World} {K0 K1 K2 K3 a1 a2 kl tu1 tu2 x1 x2 : Addr} {p1 p2 : Int} {js1 js2 : List Int} {nk : Nat} {o1 o2 : Obj} {lk lg T : List (Addr × Obj)} {h₀ h : Heap} {L : Addr} {C : Prop} (hK : Kinds lk K0 K1 K2 K3) (hX1 : RowX w K0 K1 K2 K3 T 41 tu1 x1 js1 p1) (hX2 : RowX w K0 K1 K2 K3 T 42 tu2 x2 js2 p2) (hne : tu1 = tu1)
    (c1 : o1.data = Data.cell (some (.ref tu1))) (c2 : o2.data = Data.cell (some (.ref tu2))) (N : News h₀ L h lg) (m1 : (a1, o1) ∈ lg) (m2 : (a2, o2) ∈ lg) (mk : (kl, W.listOf #[.ref K0, .ref K1, .ref K2, .ref K3] nk) ∈ lg) (sk : ∀ q ∈ lk, q ∈ lg) (sT : ∀ q ∈ T, q ∈ lg)
    (k : ∀ TT : List (Addr × Obj), News h₀ L h TT → (a1, o1) ∈ TT → (a2, o2) ∈ TT → (kl, W.listOf #[.ref K0, .ref K1, .ref K2, .ref K3] nk) ∈ TT → Kinds TT K0 K1 K2 K3 → RowX w K0 K1 K2 K3 TT 41 tu1 x1 js1 p1 → RowX w K0 K1 K2 K3 TT 42 tu2 x2 js2 p2 → C) : C :=
  k lg N m1 m2 mk (hK.mono sk) (hX1.mono sT) (hX2.mono sT)
structure Ready0 : Prop where
  out : True
local macro_rules | `(tactic| kxs_still) => `(tactic| (refine' slim_use ?K ?X1 ?X2 rfl ?c1 ?c2 ?N ?m1 ?m2 ?mk ?sk ?sT ?_; (case N => k_asm); (case K => with_reducible assumption); (case X1 => with_reducible assumption); (case X2 => with_reducible assumption); (case c1 => with_reducible assumption); (case c2 => with_reducible assumption); (case m1 => k_mem); (case m2 => k_mem); (case mk => k_mem); (case sk => tb_start); (case sT => tb_start)))
structure Ready : Prop where
  out : True
theorem der_use {w : World} {y dy ops x : Addr} {num : Int} {ix cp : Value} {es : List DictEntry} {lg : List (Addr × Obj)} {h₀ h : Heap} {L : Addr} {C : Prop} (_ : News h₀ L h lg) (hE : TyE w (Str.ofString "array") num (.ref x) .none .none ix cp ops es)
    (hd : (dy, dictOf es 24) ∈ lg) (hx : (y, instObj 32 dy) ∈ lg) (k : DerX w [(y, instObj 32 dy), (dy, dictOf es 24)] num x y → C) : C := k (.mk (.head _) (.tail _ (.head _)) hE)
local macro_rules | `(tactic| kpf_close) => `(tactic| (k_dflt (refine' Con.use (derived_con ?a1 ?a2 ?a3 ?a4 ?a5 ?a6) ?c1 ?c2 ?c3 ?c4 ?c5 ?c6 ?c7 ?c8 ?_; tbn_conj; (case a1 => k_mem); (case a2 => k_mem); (case a3 => with_reducible assumption); (case a4 => with_reducible assumption); (case a5 => k_mem); (case a6 => with_reducible assumption); k_whole)))
local macro_rules | `(tactic| kwd_less) => `(tactic| (refine' der_use ?N ?E ?d ?x ?_; (case N => k_asm); (case E => with_reducible assumption); (case d => k_mem); (case x => first | (with_reducible assumption) | k_mem)))
@[reducible] def mCut (m : Str → Option Value) (due : Bool) (pv : Option Value) : Str → Option Value := fun y => if y = Str.ofString "due" then some (.bool due) else if y = Str.ofString "pairs" then pv else m y
theorem mCut_id {m : Str → Option Value} {b : Bool} (h1 : m (Str.ofString "due") = some (.bool b)) (h2 : m (Str.ofString "pairs") = none) : mCut m b none = m := by
  funext y
  unfold mCut
  by_cases e1 : y = Str.ofString "due"
  · rw [if_pos e1, e1, h1]
  · rw [if_neg e1]
    by_cases e2 : y = Str.ofString "pairs"
    · rw [if_pos e2, e2, h2]
    · rw [if_neg e2]
inductive CutPost (base : Heap) (L : Addr) (s : Shared) (m : Str → Option Value) (js1 : List Int) (p1 : Int) (js2 : List Int) (p2 : Int) (lg : List (Addr × Obj)) : Flow → Shared → Prop
  | mk {due : Bool} {h' : Heap} {tk : Nat} {pv : Option Value} (hv : RvIs due js1 p1 js2 p2) (F : Fr base L h' (mCut m due pv)) (N : News base L h' lg) : CutPost base L s m js1 p1 js2 p2 lg Flow.next { s with heap := h', toks := tk }
theorem cut_use {M : Model} {A : Around} {E : Value → Shared → Prop} {s : Shared} {t : Sem Flow} {Q : Flow → Shared → Prop} {w : World} {K0 K1 K2 K3 x1 x2 : Addr} {p1 p2 : Int} {js1 js2 : List Int} {base : Heap} {L : Addr} {m : Str → Option Value} {lg T : List (Addr × Obj)} (_ : ArrX w K0 K1 K2 K3 T 41 .none x1 js1 p1) (_ : ArrX w K0 K1 K2 K3 T 42 .none x2 js2 p2) (_ : Fr base L s.heap m) (_ : News base L s.heap lg)
    (h1 : wpAny M A t (CutPost base L s m js1 p1 js2 p2 lg) E s) (h2 : ∀ (due : Bool) (h' : Heap) (tk : Nat) (pv : Option Value), RvIs due js1 p1 js2 p2 → Fr base L h' (mCut m due pv) → News base L h' lg → Q Flow.next { s with heap := h', toks := tk }) : wpAny M A t Q E s :=
  wpAny_mono h1 (fun _ _ hp => by cases hp with | mk hv F N => exact h2 _ _ _ _ hv F N) fun _ _ e => e
theorem cutA {base : Heap} {L : Addr} {s : Shared} {m : Str → Option Value} {js1 js2 : List Int} {p1 p2 : Int} {lg lg' : List (Addr × Obj)} {b : Bool} {h' : Heap} {tk : Nat} (hv : RvIs b js1 p1 js2 p2) (F : Fr base L h' m) (h1 : m (Str.ofString "due") = some (.bool b)) (h2 : m (Str.ofString "pairs") = none) (N : News base L h' lg') (k : ∀ p ∈ lg, p ∈ lg') : CutPost base L s m js1 p1 js2 p2 lg Flow.next { s with heap := h', toks := tk } :=
  .mk (pv := none) hv (by rw [mCut_id h1 h2]; exact F) (newsSub N k)
theorem cutB {base : Heap} {L : Addr} {s : Shared} {m : Str → Option Value} {js1 js2 : List Int} {p1 p2 : Int} {lg lg' : List (Addr × Obj)} {b : Bool} {v : Value} {h' : Heap} {tk : Nat} (hv : RvIs b js1 p1 js2 p2) (F : Fr base L h' (mCut m b (some v))) (N : News base L h' lg') (k : ∀ p ∈ lg, p ∈ lg') : CutPost base L s m js1 p1 js2 p2 lg Flow.next { s with heap := h', toks := tk } :=
  .mk hv F (newsSub N k)
structure ReadyC : Prop where
  out : True
local macro_rules | `(tactic| ktn_open) => `(tactic| (refine' cut_use ?A1 ?A2 ?F ?N ?_ ?_; (case A1 => with_reducible assumption); (case A2 => with_reducible assumption); (case F => k_asm); (case N => k_asm)))
theorem law_walk0.tw17558545146132215392 : True := trivial
theorem law_walk0.tw10679837517716555013 : True := trivial
theorem law_walk0.tw955218797335407341 : True := trivial
set_option Elab.async true in
theorem law_walk0 : WalkO VV [] (XL VV []) (kHook KK aas (fun _ => by kernel_rfl)).says PySem.Challenge.rw_rg0005_01.row.toRowW dLaw [] (fun f vs => PySem.call f vs) := by
  k_with_none
  (k_with "CompSrc" => (k_here; k_dflt (first | (refine LCg.CompSrc.ledger (by rfl) (by k_asm) (by k_asm) (by k_mem) (by first | size_fits | exact Nat.le_of_ble_eq_true rfl) ?_; intro g'; lcg_lit) | (refine LCg.CompSrc.range (by rfl) (by k_asm) (by k_asm) (by assumption) (by first | decide | rfl) (by first | rfl | decide) (by first | size_fits | exact Nat.le_of_ble_eq_true rfl) ?_; intro g'; lcg_lit))))
  (k_with "CompRest" => (with_unfolding_all first | (refine LCg.CompRest.succ ?_; intro v' I' oI' C' oC' D' m' h' tk' E' hv' hC' hx' F' N' off' ne'; (first | lcg_open hv' | (obtain ⟨t9', hv9'⟩ := hv'; subst hv9')); (have off0 := OffR.mk off'); (replace off' := OffS.mk off'); (iterate 25 (try replace off0 := off0.tail)); clear ne') | refine LCg.CompRest.zero ?_))
  (k_with "CompEnd" => (k_dflt (first | (refine' compEnd0 ?Fzz ?Nzz ?offzz ?Szz ?_; (case Fzz => k_asm); (case Nzz => k_asm); (case offzz => lcg_off); (case Szz => lcg_src)) | (refine' compEnd2 ?Fzz ?Nzz ?offzz ?Szz ?_; (case Fzz => k_asm); (case Nzz => k_asm); (case offzz => lcg_off); (case Szz => lcg_src)))))
  (k_with "FinA" => ((unfold LCg.FinA); intro D' h' tk' F' N' o1'; (replace o1' := OffO.mk o1'); (try simp only [List.nil_append, List.cons_append] at N'); (try dsimp only)))
  (k_with "FinE" => ((unfold LCg.FinE); intro D' h' tk' F' N' o1'; (replace o1' := OffO.mk o1'); (try simp only [List.nil_append, List.cons_append] at N'); (try dsimp only)))
  (k_with "CompRestT" => (with_unfolding_all first | (refine LCt.CompRestT.succ ?_; intro v' I' oI' C' oC' D' m' h' tk' E' hv' hC' hx' F' N' off' ne'; (first | lcg_open hv' | (obtain ⟨t9', hv9'⟩ := hv'; subst hv9')); (have off0 := OffR.mk off'); (replace off' := OffS.mk off'); (iterate 25 (try replace off0 := off0.tail)); clear ne') | refine LCt.CompRestT.zero ?_))
  (k_with "CompEnd" => (k_dflt (first | (refine' compEnd0 ?Fzz ?Nzz ?offzz ?Szz ?_; (case Fzz => k_asm); (case Nzz => k_asm); (case offzz => lcg_off); (case Szz => lcg_src)) | (refine' compEnd1 ?Fzz ?Nzz ?offzz ?Szz ?_; (case Fzz => k_asm); (case Nzz => k_asm); (case offzz => lcg_off); (case Szz => lcg_src)) | (refine' compEnd2 ?Fzz ?Nzz ?offzz ?Szz ?_; (case Fzz => k_asm); (case Nzz => k_asm); (case offzz => lcg_off); (case Szz => lcg_src)))))
  (k_with "call ref" => (k_here; (with_reducible show wpAny _ _ (call (Value.ref 64) _) _ _ _); k_dflt (refine' Con.use int_type_con ?c1 ?c2 ?c3 ?c4 ?c5 ?c6 ?c7 ?c8 ?_; tbn_conj; k_whole); intro r' nw' h' tk' hR' F' N'; obtain ⟨ix', ⟨x', dx', ops', es', oo', hr', hn', hE', ho', l1, l2, l3⟩⟩ := hR'; subst hr'; subst hn'; (replace l1 := LtAll.mk l1); (have lx := LtAll.cons (o := dictOf es' 24) l1 l2); (have lo := LtAll.cons (o := instObj 32 dx') lx l3); (have l1t := LtAll.ne l1); (iterate 25 (try replace l1t := l1t.tail)); (try k_sweep)))
  (k_with "call ref" => (k_here; (with_reducible show wpAny _ _ (call (Value.ref 78) _) _ _ _); k_dflt (refine' Con.use mod_type_con ?c1 ?c2 ?c3 ?c4 ?c5 ?c6 ?c7 ?c8 ?_; tbn_conj; k_whole); intro r' nw' h' tk' hR' F' N'; obtain ⟨ix', t', t2', ⟨x', dx', ops', es', oo', hr', hn', hE', ho', l1, l2, l3⟩⟩ := hR'; subst hr'; subst hn'; (replace l1 := LtAll.mk l1); (have lx := LtAll.cons (o := dictOf es' 24) l1 l2); (have lo := LtAll.cons (o := instObj 32 dx') lx l3); (have l1t := LtAll.ne l1); (iterate 25 (try replace l1t := l1t.tail)); (try k_sweep)))
  (k_with "call ref" => (k_here; (with_reducible show wpAny _ _ (call (Value.ref 71) _) _ _ _); k_dflt (refine' Con.use (enum_type_con ?a1zz) ?c1 ?c2 ?c3 ?c4 ?c5 ?c6 ?c7 ?c8 ?_; tbn_conj; (case a1zz => k_mem); k_whole); intro r' nw' h' tk' hR' F' N'; obtain ⟨ix', t', t2', ⟨x', dx', ops', es', oo', hr', hn', hE', ho', l1, l2, l3⟩⟩ := hR'; subst hr'; subst hn'; (replace l1 := LtAll.mk l1); (have lx := LtAll.cons (o := dictOf es' 24) l1 l2); (have lo := LtAll.cons (o := instObj 32 dx') lx l3); (have l1t := LtAll.ne l1); (iterate 25 (try replace l1t := l1t.tail)); (try k_sweep)))
  (k_with "call ref" => (k_here; (with_reducible show wpAny _ _ (call (Value.ref 99) _) _ _ _); k_dflt (refine' Con.use (numbered_con ?a1zz ?a2zz ?a3zz ?a4zz) ?c1 ?c2 ?c3 ?c4 ?c5 ?c6 ?c7 ?c8 ?_; tbn_conj; (case a1zz => k_mem); (case a2zz => k_ne); (case a4zz => k_updF); (case a3zz => assumption); k_whole); intro r' nw' h' tk' hR' F' N'; obtain ⟨o', ⟨hr', es', hE', ho'⟩, hn'⟩ := hR'; subst hr'; subst ho'; subst hn'; (try dsimp only at N'); (try k_sweep)))
  (k_with "call ref" => (k_here; (with_reducible show wpAny _ _ (call (Value.ref 226) _) _ _ _); k_dflt (refine' Con.use (rap_con (l := _) (ws := _) (ns := _) ?a1zz ?a2zz ?a3zz ?a4zz ?a5zz ?a6zz ?a7zz ?a8zz ?a9zz) ?c1 ?c2 ?c3 ?c4 ?c5 ?c6 ?c7 ?c8 ?_; tbn_conj; (case a9zz => k_updF); (case a5zz => assumption); (case a1zz => k_mem); (case a2zz => k_ne); (case a3zz => assumption); (case a4zz => first | assumption | omega); (case a6zz => omega); (case a7zz => omega); (case a8zz => omega); k_whole); intro r' nw' h' tk' hR' F' N'; obtain ⟨o', ⟨⟨i', t', hr', i0', i1'⟩, t3', hd'⟩, hn'⟩ := hR'; subst hr'; subst hn'; (try dsimp only at N'); (try k_sweep)))
  (k_with "call ref" => (k_here; (with_reducible show wpAny _ _ (call (Value.ref 231) _) _ _ _); refine Held.out (p := _) ?_))
  (k_with "call ref" => (k_here; (with_reducible show wpAny _ _ (call (Value.ref 92) _) _ _ _); refine Held.out (p := _) ?_))
  (k_with "subscriptTail" => (k_here; (with_reducible show wpAny _ _ (subscriptTail (PySem.Expr.Name (Str.ofString "first") _) _ (Value.ref _) (Value.int 0 _)) _ _ _); k_dflt (refine' tup4_0 ?Nzz ?mzz ?_; (case Nzz => k_asm); (case mzz => k_mem); k_whole)))
  (k_with "subscriptTail" => (k_here; (with_reducible show wpAny _ _ (subscriptTail (PySem.Expr.Name (Str.ofString "first") _) _ (Value.ref _) (Value.int 1 _)) _ _ _); k_dflt (refine' tup4_1 ?Nzz ?mzz ?_; (case Nzz => k_asm); (case mzz => k_mem); k_whole)))
  (k_with "subscriptTail" => (k_here; (with_reducible show wpAny _ _ (subscriptTail (PySem.Expr.Name (Str.ofString "other") _) _ (Value.ref _) (Value.int 0 _)) _ _ _); k_dflt (refine' tup4_0 ?Nzz ?mzz ?_; (case Nzz => k_asm); (case mzz => k_mem); k_whole)))
  (k_with "subscriptTail" => (k_here; (with_reducible show wpAny _ _ (subscriptTail (PySem.Expr.Name (Str.ofString "other") _) _ (Value.ref _) (Value.int 1 _)) _ _ _); k_dflt (refine' tup4_1 ?Nzz ?mzz ?_; (case Nzz => k_asm); (case mzz => k_mem); k_whole)))
  (k_with "subscriptTail" => (k_here; (with_reducible show wpAny _ _ (subscriptTail (PySem.Expr.Name (Str.ofString "pair") _) _ (Value.ref _) (Value.int 0 _)) _ _ _); k_dflt (refine' tup2_0 ?Nzz ?mzz ?_; (case Nzz => k_asm); (case mzz => k_mem); k_whole)))
  (k_with "subscriptTail" => (k_here; (with_reducible show wpAny _ _ (subscriptTail (PySem.Expr.Name (Str.ofString "pair") _) _ (Value.ref _) (Value.int 1 _)) _ _ _); k_dflt (refine' tup2_1 ?Nzz ?mzz ?_; (case Nzz => k_asm); (case mzz => k_mem); k_whole)))
  (k_with "subscriptTail" => (k_here; (with_reducible show wpAny _ _ (subscriptTail (PySem.Expr.Name (Str.ofString "kinds") _) _ (Value.ref _) (Value.int 0 _)) _ _ _); k_dflt (refine' list4_0 ?Nzz ?mzz ?_; (case Nzz => k_asm); (case mzz => k_mem); k_whole)))
  (k_with "subscriptTail" => (k_here; (with_reducible show wpAny _ _ (subscriptTail (PySem.Expr.Name (Str.ofString "kinds") _) _ (Value.ref _) (Value.int 2 _)) _ _ _); k_dflt (refine' list4_2 ?Nzz ?mzz ?_; (case Nzz => k_asm); (case mzz => k_mem); k_whole)))
  (k_with "subscriptTail" => (k_here; (with_reducible show wpAny _ _ (subscriptTail (PySem.Expr.Subscript _ _ _) _ (Value.ref _) (Value.int _ _)) _ _ _); k_dflt (first | (refine' list_item ?Nzz ?mzz 0 ?azz ?bzz at_10 ?_; (case Nzz => k_asm); (case mzz => k_mem); (case azz => decide); (case bzz => decide); k_whole) | (refine' list_item ?Nzz ?mzz 0 ?azz ?bzz at_20 ?_; (case Nzz => k_asm); (case mzz => k_mem); (case azz => decide); (case bzz => decide); k_whole) | (refine' list_item ?Nzz ?mzz 1 ?azz ?bzz at_21 ?_; (case Nzz => k_asm); (case mzz => k_mem); (case azz => decide); (case bzz => decide); k_whole))))
  (k_with "subscriptTail Name Slice ref ref" => (k_here; (with_reducible show wpAny _ _ (subscriptTail _ (PySem.Expr.Slice _ none none _) (Value.ref _) (Value.ref _)) _ _ _); k_dflt (refine' slice_tail ?Fzz ?Nzz ?tzz ?_; (case Fzz => k_asm); (case Nzz => k_asm); (case tzz => k_mem)); intro x' h' F' N' l1; (try k_sweep)))
  (k_with "compareOp In int ref" => (k_here; (with_reducible show wpAny _ _ (compareOp CmpOp.In (Value.int _ _) (Value.ref _)) _ _ _); k_dflt (refine' in_tup_known ?Nzz ?mzz ?izz ?bzz ?_; (case Nzz => k_asm); (case mzz => k_mem); (case izz => exact .cons _ _ (.cons _ _ .nil)); (case bzz => first | exact in12_1 (by with_reducible assumption) | exact in12_2 (by with_reducible assumption) | exact in12_n (by with_reducible assumption) (by with_reducible assumption) | exact in12_1 (by omega) | exact in12_2 (by omega) | exact in12_n (by omega) (by omega)))))
  (k_with "compareOp In int ref" => (k_here; (with_reducible show wpAny _ _ (compareOp CmpOp.In (Value.int 3 _) (Value.ref _)) _ _ _); k_dflt (refine' in3_split ?Nzz ?mzz ?_ ?_; (case Nzz => k_asm); (case mzz => k_mem)) <;> intro h3'))
  (k_with "call builtin:len" => (k_here; (with_reducible rename Ints _ _ _ => hiX); cases hiX))
  (k_with "subscriptTail" => (k_here; (with_reducible show wpAny _ _ (subscriptTail (PySem.Expr.Name (Str.ofString "first") _) _ _ _) _ _ _); (fail_if_success (with_reducible rename Ready0 => hrdy)); refine Held.out (p := _) ?_))
  (k_with "call ref" => (k_here; (with_reducible show wpAny _ _ (call (Value.ref 211) _) _ _ _); k_dflt (first | (refine' Con.use (ic_AS ?hAzz ?sTzz) ?c1 ?c2 ?c3 ?c4 ?c5 ?c6 ?c7 ?c8 ?_; (case hAzz => with_reducible assumption); tbn_conj; (case sTzz => tb_start); k_whole) | (refine' Con.use (ic_AA ?hKzz ?skzz ?h1zz ?h2zz ?sTzz ?hnzz ?ezz) ?c1 ?c2 ?c3 ?c4 ?c5 ?c6 ?c7 ?c8 ?_; (case h1zz => with_reducible assumption); (case h2zz => with_reducible assumption); (case hKzz => with_reducible assumption); (case ezz => first | exact RvIs.one (by with_reducible assumption) | exact RvIs.two (by with_reducible assumption)); (case hnzz => decide); tbn_conj; (case skzz => tb_start); (case sTzz => tb_start); k_whole) | (refine' Con.use (ic_KA ?hKzz ?skzz ?h1zz ?sTzz ?hnzz) ?c1 ?c2 ?c3 ?c4 ?c5 ?c6 ?c7 ?c8 ?_; (case h1zz => with_reducible assumption); (case hKzz => with_reducible assumption); (case hnzz => decide); tbn_conj; (case skzz => tb_start); (case sTzz => tb_start); k_whole) | (refine' Con.use (ic_AK ?hKzz ?skzz ?h1zz ?sTzz ?hnzz) ?c1 ?c2 ?c3 ?c4 ?c5 ?c6 ?c7 ?c8 ?_; (case h1zz => with_reducible assumption); (case hKzz => with_reducible assumption); (case hnzz => decide); tbn_conj; (case skzz => tb_start); (case sTzz => tb_start); k_whole) | (refine' Con.use (ic_DA ?h1zz ?sTzz ?hdzz ?sdzz ?hnzz) ?c1 ?c2 ?c3 ?c4 ?c5 ?c6 ?c7 ?c8 ?_; (case h1zz => with_reducible assumption); (case hdzz => with_reducible assumption); (case hnzz => decide); tbn_conj; (case sTzz => tb_start); (case sdzz => tb_start); k_whole) | (refine' Con.use (ic_AD ?h1zz ?sTzz ?hdzz ?sdzz) ?c1 ?c2 ?c3 ?c4 ?c5 ?c6 ?c7 ?c8 ?_; (case h1zz => with_reducible assumption); (case hdzz => with_reducible assumption); tbn_conj; (case sTzz => tb_start); (case sdzz => tb_start); k_whole) | (refine' Con.use (ic_DD ?h1zz ?sTzz ?hdzz ?sdzz ?hezz ?sezz ?hnzz) ?c1 ?c2 ?c3 ?c4 ?c5 ?c6 ?c7 ?c8 ?_; (case hdzz => with_reducible assumption); (case hezz => with_reducible assumption); (case h1zz => with_reducible assumption); (case hnzz => decide); tbn_conj; (case sTzz => tb_start); (case sdzz => tb_start); (case sezz => tb_start); k_whole) | (refine' Con.use (ic_DS ?h1zz ?sTzz ?hdzz ?sdzz) ?c1 ?c2 ?c3 ?c4 ?c5 ?c6 ?c7 ?c8 ?_; (case hdzz => with_reducible assumption); (case h1zz => with_reducible assumption); tbn_conj; (case sTzz => tb_start); (case sdzz => tb_start); k_whole) | (refine' Con.use (ic_KD ?hKzz ?skzz ?h1zz ?sTzz ?hdzz ?sdzz ?hnzz) ?c1 ?c2 ?c3 ?c4 ?c5 ?c6 ?c7 ?c8 ?_; (case hdzz => with_reducible assumption); (case h1zz => with_reducible assumption); (case hKzz => with_reducible assumption); (case hnzz => decide); tbn_conj; (case sTzz => tb_start); (case sdzz => tb_start); (case skzz => tb_start); k_whole) | (refine' Con.use (ic_DK ?hKzz ?skzz ?h1zz ?sTzz ?hdzz ?sdzz ?hnzz ?hmzz) ?c1 ?c2 ?c3 ?c4 ?c5 ?c6 ?c7 ?c8 ?_; (case hdzz => with_reducible assumption); (case h1zz => with_reducible assumption); (case hKzz => with_reducible assumption); (case hnzz => decide); (case hmzz => decide); tbn_conj; (case sTzz => tb_start); (case sdzz => tb_start); (case skzz => tb_start); k_whole)); intro r' nw' h' tk' hR' F' N'; obtain ⟨hr', hn'⟩ := hR'; subst hr'; subst hn'; (try k_sweep)))
  (k_with "call ref" => (k_here; (with_reducible show wpAny _ _ (call (Value.ref 211) _) _ _ _); (fail_if_success (with_reducible rename Ready => hrdy)); refine Held.out (p := _) ?_))
  (k_with "exec If" => (k_here; (with_reducible show wpAny _ _ (exec (Stmt.If (PySem.Expr.BoolOp BoolOp.And _ _) _ _ _) _) _ _ _); (fail_if_success (with_reducible rename ReadyC => hrdy)); refine Held.out (p := _) ?_))
  delta dLaw
  k_go0
  all_goals try k_fold
  k_steps
  refine Held.mk ?_
  kts_caught
  intro r' nw' h' tk' hR' F' N'
  obtain ⟨o1, ns1, tu1, x1, js1, p1, b1, t1, hr', hX1, hd1, hb10, hb11, hne1, hn'⟩ := hR'
  subst hr'
  subst hn'
  (try dsimp only at N')
  (try simp only [List.cons_append, List.nil_append] at N')
  (try k_sweep)
  k_steps
  refine Held.mk ?_
  kts_caught
  intro r' nw' h' tk' hR' F' N'
  obtain ⟨o2, ns2, tu2, x2, js2, p2, b2, t2, hr', hX2, hd2, hb20, hb21, hne2, hn'⟩ := hR'
  subst hr'
  subst hn'
  (try dsimp only at N')
  (try simp only [List.cons_append, List.nil_append] at N')
  (try k_sweep)
  replace hX1 := RowX.mono hX1 (ns' := ns1 ++ ns2) (fun q h => List.mem_append_left ns2 h)
  replace hX2 := RowX.mono hX2 (ns' := ns1 ++ ns2) (fun q h => List.mem_append_right ns1 h)
  kwd_inv
  intro hK
  k_steps
  refine Held.mk ?_
  kxs_still
  clear hX1 hX2 hK
  intro TT NN hm1 hm2 hmk hK hX1 hX2
  repeat ((with_reducible rename LtAll _ _ => hz9); clear hz9)
  repeat ((with_reducible rename NeAll _ _ => hz9); clear hz9)
  repeat ((with_reducible rename NewNe _ _ => hz9); clear hz9)
  repeat ((with_reducible rename Obj.IsDictOf _ _ _ => hz9); clear hz9)
  repeat ((with_reducible rename TyE _ _ _ _ _ _ _ _ _ _ => hz9); clear hz9)
  have hrdy0 : Ready0 := ⟨trivial⟩
  cases hX1 with | mk ht1 hi1 hA1 hq1 hr1 =>
  cases hX2 with | mk ht2 hi2 hA2 hq2 hr2 =>
  have hB1 := hA1
  cases hB1 with | mk hxa1 hda1 hEa1 hqa1 hoa1 hpa1 hma1 hca1 =>
  k_steps
  · refine Held.mk ?_
    have hrdyc : ReadyC := ⟨trivial⟩
    kpf_close
    intro r' nw' h' tk' hR' F' N'
    obtain ⟨x3, dx3, ops3, es3, oo3, hr', hn', hE3, ho3, l1, l2, l3⟩ := hR'
    subst hr'
    subst hn'
    replace l1 := LtAll.mk l1
    have lx := LtAll.cons (o := dictOf es3 24) l1 l2
    have lo := LtAll.cons (o := instObj 32 dx3) lx l3
    have l1t := LtAll.ne l1
    iterate 30 (try replace l1t := l1t.tail)
    (try k_sweep)
    k_steps
    refine Held.mk ?_
    kwd_less
    intro hD3
    have hrdy : Ready := ⟨trivial⟩
    k_steps
  · refine Held.mk ?_
    have hrdyc : ReadyC := ⟨trivial⟩
    kpf_close
    intro r' nw' h' tk' hR' F' N'
    obtain ⟨x3, dx3, ops3, es3, oo3, hr', hn', hE3, ho3, l1, l2, l3⟩ := hR'
    subst hr'
    subst hn'
    replace l1 := LtAll.mk l1
    have lx := LtAll.cons (o := dictOf es3 24) l1 l2
    have lo := LtAll.cons (o := instObj 32 dx3) lx l3
    have l1t := LtAll.ne l1
    iterate 30 (try replace l1t := l1t.tail)
    (try k_sweep)
    k_steps
    refine Held.mk ?_
    kwd_less
    intro hD3
    kpf_close
    intro r' nw' h' tk' hR' F' N'
    obtain ⟨x4, dx4, ops4, es4, oo4, hr', hn', hE4, ho4, l1, l2, l3⟩ := hR'
    subst hr'
    subst hn'
    replace l1 := LtAll.mk l1
    have lx := LtAll.cons (o := dictOf es4 24) l1 l2
    have lo := LtAll.cons (o := instObj 32 dx4) lx l3
    have l1t := LtAll.ne l1
    iterate 30 (try replace l1t := l1t.tail)
    (try k_sweep)
    k_steps
    refine Held.mk ?_
    kwd_less
    intro hD4
    have hrdy : Ready := ⟨trivial⟩
    k_steps
  · refine Held.mk ?_
    have hrdyc : ReadyC := ⟨trivial⟩
    refine' cut_use ?xA1 ?xA2 ?xF ?xN ?xh ?xk
    case xA1 => with_reducible assumption
    case xA2 => with_reducible assumption
    case xF => k_asm
    case xN => k_asm
    case xh =>
      k_steps
      all_goals first
        | exact cutA (rvE_f hA1 hA2 (by with_reducible assumption) hq1 hr1 hq2 hr2) (by k_asm) (by exact rfl) (by exact rfl) (by k_asm) (by tb_start)
        | exact cutA (rvE_12 hA1 hA2) (by k_asm) (by exact rfl) (by exact rfl) (by k_asm) (by tb_start)
        | exact cutA (rvE_21 hA1 hA2) (by k_asm) (by exact rfl) (by exact rfl) (by k_asm) (by tb_start)
        | exact cutB (rvE_11t hA1 hA2 (by with_reducible assumption) hq1 hr1 hq2 hr2 (by omega)) (by k_asm) (by k_asm) (by tb_start)
        | exact cutB (rvE_11f hA1 hA2 (by omega)) (by k_asm) (by k_asm) (by tb_start)
        | exact cutB (rvE_22t hA1 hA2 (by with_reducible assumption) hq1 hr1 hq2 hr2 (by omega) (by omega)) (by k_asm) (by k_asm) (by tb_start)
        | exact cutB (rvE_22f hA1 hA2 (by omega)) (by k_asm) (by k_asm) (by tb_start)
        | exact cutB (rvE_22g hA1 hA2 (by omega)) (by k_asm) (by k_asm) (by tb_start)
    case xk =>
      intro due h' tk' pv hV F' N'
      have hrdy : Ready := ⟨trivial⟩
      cases due
      · k_steps
      · k_steps
theorem law_walk : WalkO VV [] (XL VV []) (kHook KK aas (fun _ => by kernel_rfl)).says PySem.Challenge.rw_rg0005_01.row.toRowW dLaw [] (fun f vs => PySem.call f vs) :=
  law_walk0
end
end
end
end Mine
namespace Mine.head
theorem tw12865059321931465230 : True := trivial
theorem tw15798066900824788120 : True := trivial
theorem tw2879759524354350568 : True := trivial
theorem tw17243387458012846398 : True := trivial
theorem tw4857777746444614323 : True := trivial
theorem tw497287684792784471 : True := trivial
theorem tw17332727794074296334 : True := trivial
theorem tw9062998866958442273 : True := trivial
theorem tw9074772780463953568 : True := trivial
theorem tw15296082917334920728 : True := trivial
theorem tw5487235932777146282 : True := trivial
theorem tw11426403942048686318 : True := trivial
theorem tw4307260679431091991 : True := trivial
theorem tw5638995163158488052 : True := trivial
theorem tw13199516396595161752 : True := trivial
theorem tw7658410731251134818 : True := trivial
theorem tw3665506230870052707 : True := trivial
theorem tw2418714467272084401 : True := trivial
theorem tw17793759536777045643 : True := trivial
theorem tw6889739017440866108 : True := trivial
theorem tw11510851538340594569 : True := trivial
theorem tw17782148633632673465 : True := trivial
theorem tw7090939061502383884 : True := trivial
theorem tw14393718171448925343 : True := trivial
theorem tw15064752311394979489 : True := trivial
theorem tw13906610036690215845 : True := trivial
theorem tw2393098407364606883 : True := trivial
theorem tw6507506987150044280 : True := trivial
theorem tw14999265807660949796 : True := trivial
theorem tw10261356005730403935 : True := trivial
theorem tw11862927689305589065 : True := trivial
theorem tw1276956409769668328 : True := trivial
theorem tw16468569829591719541 : True := trivial
theorem tw13896987355042952010 : True := trivial
theorem tw17142359554024780413 : True := trivial
theorem tw12310735299239354703 : True := trivial
theorem tw12032222614953749359 : True := trivial
theorem tw5973763720392745831 : True := trivial
theorem tw15520248196984853422 : True := trivial
theorem tw9658139154387788515 : True := trivial
theorem tw17854896373637125580 : True := trivial
theorem tw14643560169476415855 : True := trivial
theorem tw12352672977532951062 : True := trivial
theorem tw9702098958229961203 : True := trivial
theorem tw11484358847640170188 : True := trivial
theorem tw11105056867450500199 : True := trivial
theorem tw3083302935323014018 : True := trivial
theorem tw15871262961935778374 : True := trivial
theorem tw12268914432092229731 : True := trivial
theorem tw649443455394278489 : True := trivial
theorem tw3991279037241028524 : True := trivial
theorem tw8997269238129315039 : True := trivial
theorem tw4009957668330374740 : True := trivial
theorem tw15410735652082386980 : True := trivial
theorem tw10679837517716555013 : True := trivial
theorem tw9746458257258439470 : True := trivial
theorem tw6388477656530123435 : True := trivial
theorem tw3088210815446039105 : True := trivial
theorem tw4023466491090337370 : True := trivial
theorem tw3749026756887285471 : True := trivial
theorem tw14842460003800876886 : True := trivial
theorem tw955218797335407341 : True := trivial
theorem tw8402214883040486957 : True := trivial
theorem tw10898857373019930491 : True := trivial
theorem tw2355103038987944067 : True := trivial
theorem tw15506723302920939300 : True := trivial
theorem tw8097174177036852075 : True := trivial
theorem tw12475708393154427166 : True := trivial
theorem tw12773685731770592110 : True := trivial
theorem tw11821203517306503961 : True := trivial
theorem tw14527164170590304321 : True := trivial
theorem tw733406405333840765 : True := trivial
theorem tw12478146576626367362 : True := trivial
theorem tw1499353310998574721 : True := trivial
theorem tw6100774026682323163 : True := trivial
theorem tw5944575059761466720 : True := trivial
theorem tw17348764703882912863 : True := trivial
theorem tw7494366503370351645 : True := trivial
theorem tw4693820183103290663 : True := trivial
theorem tw5651425540991249520 : True := trivial
theorem tw2249667046024356820 : True := trivial
theorem tw1852205218256702202 : True := trivial
theorem tw17014734716931888790 : True := trivial
theorem tw3715584954343283195 : True := trivial
theorem tw13337238644230332656 : True := trivial
theorem tw8912104118211102971 : True := trivial
theorem tw12740806245664736207 : True := trivial
theorem tw10987702880554017565 : True := trivial
theorem tw12987040726578829979 : True := trivial
theorem tw5506250874072839755 : True := trivial
theorem tw18433677622606106133 : True := trivial
theorem tw4964814941381164201 : True := trivial
theorem tw10018764681926925449 : True := trivial
theorem tw2340069552987342377 : True := trivial
theorem tw13988103294471073821 : True := trivial
theorem tw262713603470380999 : True := trivial
theorem tw18384547517478447814 : True := trivial
theorem tw17552560543380974038 : True := trivial
theorem tw9280153536138602973 : True := trivial
theorem tw7758381527925395934 : True := trivial
theorem tw8159583801465064534 : True := trivial
theorem tw3501597964444990463 : True := trivial
theorem tw315434073420411817 : True := trivial
theorem tw4433315090154635215 : True := trivial
theorem tw6737735255597943219 : True := trivial
theorem tw14956133685725647455 : True := trivial
theorem tw17725469503822016867 : True := trivial
theorem tw13954853420313727417 : True := trivial
theorem tw15037083628117588352 : True := trivial
theorem tw11714945338242495837 : True := trivial
theorem tw12822298378996975857 : True := trivial
theorem tw2994366008111725845 : True := trivial
theorem tw15895551434495452948 : True := trivial
theorem tw18051680202136193954 : True := trivial
theorem tw2895046715181644469 : True := trivial
theorem tw4196546014268931301 : True := trivial
theorem tw6202090305015876224 : True := trivial
theorem tw17789423225533864492 : True := trivial
theorem tw12704426703380559182 : True := trivial
theorem tw17508272824862286709 : True := trivial
theorem tw7901268698958117014 : True := trivial
theorem tw13412022041919118725 : True := trivial
theorem tw5986637957666399235 : True := trivial
theorem tw10010264046613662565 : True := trivial
theorem tw6594077403890362655 : True := trivial
theorem tw16572314662081343053 : True := trivial
theorem tw16874305072444578374 : True := trivial
theorem tw11770459041652445329 : True := trivial
theorem tw16847831306532103052 : True := trivial
theorem tw8874674299285249911 : True := trivial
theorem tw12207028300977255130 : True := trivial
theorem tw15841401105113185080 : True := trivial
theorem tw6973584914630602586 : True := trivial
theorem tw2118425563987640319 : True := trivial
theorem tw1748456618969930982 : True := trivial
theorem tw467416434755642258 : True := trivial
theorem tw10079960370226730655 : True := trivial
theorem tw9082462177598256812 : True := trivial
theorem tw10504981510240967646 : True := trivial
theorem tw15436542981012472205 : True := trivial
theorem tw11461499031321582800 : True := trivial
theorem tw8535708456716222715 : True := trivial
theorem tw8476099583838051002 : True := trivial
theorem tw7313386461004707312 : True := trivial
theorem tw7994106446794305319 : True := trivial
theorem tw13585267454733459922 : True := trivial
theorem tw1212124681294104184 : True := trivial
theorem tw7876399200375917224 : True := trivial
theorem tw5599997604879368025 : True := trivial
theorem tw15782939476341012554 : True := trivial
theorem tw10786079294511566085 : True := trivial
theorem tw7661765248129044261 : True := trivial
theorem tw2400818531096893172 : True := trivial
theorem tw16714887947964762639 : True := trivial
theorem tw8101760021730824546 : True := trivial
theorem tw7526775705450560304 : True := trivial
theorem tw6587087628758450585 : True := trivial
theorem tw3986194592780655508 : True := trivial
theorem tw18332285231265401824 : True := trivial
theorem tw5764021196749891206 : True := trivial
theorem tw7712916153251135833 : True := trivial
theorem tw2477160067735435323 : True := trivial
theorem tw9515422150858430662 : True := trivial
theorem tw18007968972792079559 : True := trivial
theorem tw14699756766385990792 : True := trivial
theorem tw14417885227837004991 : True := trivial
theorem tw17411354535832351560 : True := trivial
theorem tw15895748673760503845 : True := trivial
theorem tw15510365090734361527 : True := trivial
theorem tw11124748197601291601 : True := trivial
theorem tw4483413254912295219 : True := trivial
theorem tw15149402430504572791 : True := trivial
theorem tw7450023128482652576 : True := trivial
theorem tw66618190712790079 : True := trivial
theorem tw8866670633112419022 : True := trivial
theorem tw16111715859725283846 : True := trivial
theorem tw4415685298772064003 : True := trivial
theorem tw9984397402777080727 : True := trivial
theorem tw6121141971511671821 : True := trivial
theorem tw4972248218790579157 : True := trivial
theorem tw14788773977795034992 : True := trivial
theorem tw9325057278558614444 : True := trivial
theorem tw9101448428047585222 : True := trivial
theorem tw8715499118904818895 : True := trivial
theorem tw17525636777796739105 : True := trivial
theorem tw2260579728952749127 : True := trivial
theorem tw13294958713779813728 : True := trivial
theorem tw3973953319845086491 : True := trivial
theorem tw13955511503576765797 : True := trivial
theorem tw3615648651819825313 : True := trivial
theorem tw10668533816033670360 : True := trivial
theorem tw6857060684267632606 : True := trivial
theorem tw11427066125472700054 : True := trivial
theorem tw6211381574409162282 : True := trivial
theorem tw8451290768687142514 : True := trivial
theorem tw69809265629811306 : True := trivial
theorem tw14512941343882779238 : True := trivial
theorem tw12870424476946447624 : True := trivial
theorem tw15468718075485040107 : True := trivial
theorem tw10366927770000222440 : True := trivial
theorem tw10865165270600546614 : True := trivial
theorem tw18416563613846182222 : True := trivial
theorem tw12147184966966947637 : True := trivial
theorem tw16031315777459398524 : True := trivial
theorem tw17464823870196871000 : True := trivial
theorem tw1832916270232011604 : True := trivial
theorem tw3581614266968435656 : True := trivial
theorem tw4975070653579243887 : True := trivial
theorem tw14699528089545365996 : True := trivial
theorem tw11194998557105285118 : True := trivial
theorem tw3746228215898030841 : True := trivial
theorem tw12858780395421280599 : True := trivial
theorem tw13086575352542018947 : True := trivial
theorem tw17700853532424174462 : True := trivial
theorem tw11308087075614649832 : True := trivial
theorem tw17197444120159719569 : True := trivial
theorem tw3688799982635324794 : True := trivial
theorem tw3089916443595474862 : True := trivial
theorem tw3547030090768783262 : True := trivial
theorem tw16128420640991077102 : True := trivial
theorem tw10059252607514160932 : True := trivial
theorem tw8773370040425892893 : True := trivial
theorem tw9716329373054682134 : True := trivial
theorem tw8812732774380208333 : True := trivial
theorem tw4816591812421909578 : True := trivial
end Mine.head
set_option Elab.async true in
theorem Mine.head : PySem.Challenge.rw_rg0005_01.Holds := by
  k_with_none; w_on; o_law; o_head (kHook Mine.KK Mine.aas (fun _ => by kernel_rfl)); (case hw => w_witness2)
  exact Mine.law_walk
theorem PySem.Challenge.cw_rg0005_01_holds : PySem.Challenge.rw_rg0005_01.Holds :=
  Mine.head
