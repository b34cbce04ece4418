import PyProof.Rows.All
import Wide.All
import OpenK.AllK
import Wide.FinOn
import PySem.Challenge.RW_sa0222_01
open PySem PySem.W PyProof.Rows PySem.Calls PySem.Spec Builtin Builtin.ObjectAttr
open Sem (wp)
set_option Elab.async false
set_option maxRecDepth 100000
set_option maxHeartbeats 8000000
namespace Mine
noncomputable def stAt (i : Nat) : Stmt := PySem.Challenge.pw_sa0222_01.main.body.getD i (.Pass ⟨0, 0, 0, 0⟩)
noncomputable def inCls (s : Stmt) (j : Nat) : Stmt := match s with
  | .ClassDef _ _ _ b _ _ _ _ _ _ _ => b.getD j (.Pass ⟨0, 0, 0, 0⟩)
  | _ => s
noncomputable def fnA (s : Stmt) : Arguments := match s with
  | .FunctionDef _ a _ _ _ _ _ _ _ _ => a
  | _ => ⟨[], [], none, [], [], none, []⟩
noncomputable def fnB (s : Stmt) : List Stmt := match s with
  | .FunctionDef _ _ b _ _ _ _ _ _ _ => b
  | _ => []
noncomputable def fnS (s : Stmt) : Scope := match s with
  | .FunctionDef _ _ _ _ _ _ s _ _ _ => s
  | _ => ⟨.function, [], false, false, []⟩
@[reducible] noncomputable def fA0 : Arguments := by
  refine (?g : (fnA (stAt 0) = (?b : Arguments)) → Arguments) ?h
  case g => exact fun _ => ?b
  case h => (conv => lhs; whnf)
@[reducible] noncomputable def fB0 : List Stmt := by
  refine (?g : (fnB (stAt 0) = (?b : List Stmt)) → List Stmt) ?h
  case g => exact fun _ => ?b
  case h => (conv => lhs; whnf)
@[reducible] noncomputable def fS0 : Scope := by
  refine (?g : (fnS (stAt 0) = (?b : Scope)) → Scope) ?h
  case g => exact fun _ => ?b
  case h => (conv => lhs; whnf)
@[reducible] noncomputable def fA1 : Arguments := by
  refine (?g : (fnA (inCls (stAt 2) 0) = (?b : Arguments)) → Arguments) ?h
  case g => exact fun _ => ?b
  case h => (conv => lhs; whnf)
@[reducible] noncomputable def fB1 : List Stmt := by
  refine (?g : (fnB (inCls (stAt 2) 0) = (?b : List Stmt)) → List Stmt) ?h
  case g => exact fun _ => ?b
  case h => (conv => lhs; whnf)
@[reducible] noncomputable def fS1 : Scope := by
  refine (?g : (fnS (inCls (stAt 2) 0) = (?b : Scope)) → Scope) ?h
  case g => exact fun _ => ?b
  case h => (conv => lhs; whnf)
@[reducible] noncomputable def fA2 : Arguments := by
  refine (?g : (fnA (stAt 6) = (?b : Arguments)) → Arguments) ?h
  case g => exact fun _ => ?b
  case h => (conv => lhs; whnf)
@[reducible] noncomputable def fB2 : List Stmt := by
  refine (?g : (fnB (stAt 6) = (?b : List Stmt)) → List Stmt) ?h
  case g => exact fun _ => ?b
  case h => (conv => lhs; whnf)
@[reducible] noncomputable def fS2 : Scope := by
  refine (?g : (fnS (stAt 6) = (?b : Scope)) → Scope) ?h
  case g => exact fun _ => ?b
  case h => (conv => lhs; whnf)
@[reducible] noncomputable def fA3 : Arguments := by
  refine (?g : (fnA (inCls (stAt 7) 0) = (?b : Arguments)) → Arguments) ?h
  case g => exact fun _ => ?b
  case h => (conv => lhs; whnf)
@[reducible] noncomputable def fB3 : List Stmt := by
  refine (?g : (fnB (inCls (stAt 7) 0) = (?b : List Stmt)) → List Stmt) ?h
  case g => exact fun _ => ?b
  case h => (conv => lhs; whnf)
@[reducible] noncomputable def fS3 : Scope := by
  refine (?g : (fnS (inCls (stAt 7) 0) = (?b : Scope)) → Scope) ?h
  case g => exact fun _ => ?b
  case h => (conv => lhs; whnf)
@[reducible] noncomputable def fA4 : Arguments := by
  refine (?g : (fnA (inCls (stAt 7) 1) = (?b : Arguments)) → Arguments) ?h
  case g => exact fun _ => ?b
  case h => (conv => lhs; whnf)
@[reducible] noncomputable def fB4 : List Stmt := by
  refine (?g : (fnB (inCls (stAt 7) 1) = (?b : List Stmt)) → List Stmt) ?h
  case g => exact fun _ => ?b
  case h => (conv => lhs; whnf)
@[reducible] noncomputable def fS4 : Scope := by
  refine (?g : (fnS (inCls (stAt 7) 1) = (?b : Scope)) → Scope) ?h
  case g => exact fun _ => ?b
  case h => (conv => lhs; whnf)
@[reducible] noncomputable def fA5 : Arguments := by
  refine (?g : (fnA (inCls (stAt 7) 2) = (?b : Arguments)) → Arguments) ?h
  case g => exact fun _ => ?b
  case h => (conv => lhs; whnf)
@[reducible] noncomputable def fB5 : List Stmt := by
  refine (?g : (fnB (inCls (stAt 7) 2) = (?b : List Stmt)) → List Stmt) ?h
  case g => exact fun _ => ?b
  case h => (conv => lhs; whnf)
@[reducible] noncomputable def fS5 : Scope := by
  refine (?g : (fnS (inCls (stAt 7) 2) = (?b : Scope)) → Scope) ?h
  case g => exact fun _ => ?b
  case h => (conv => lhs; whnf)
@[reducible] noncomputable def fA6 : Arguments := by
  refine (?g : (fnA (inCls (stAt 7) 3) = (?b : Arguments)) → Arguments) ?h
  case g => exact fun _ => ?b
  case h => (conv => lhs; whnf)
@[reducible] noncomputable def fB6 : List Stmt := by
  refine (?g : (fnB (inCls (stAt 7) 3) = (?b : List Stmt)) → List Stmt) ?h
  case g => exact fun _ => ?b
  case h => (conv => lhs; whnf)
@[reducible] noncomputable def fS6 : Scope := by
  refine (?g : (fnS (inCls (stAt 7) 3) = (?b : Scope)) → Scope) ?h
  case g => exact fun _ => ?b
  case h => (conv => lhs; whnf)
@[reducible] noncomputable def fA7 : Arguments := by
  refine (?g : (fnA (inCls (stAt 7) 4) = (?b : Arguments)) → Arguments) ?h
  case g => exact fun _ => ?b
  case h => (conv => lhs; whnf)
@[reducible] noncomputable def fB7 : List Stmt := by
  refine (?g : (fnB (inCls (stAt 7) 4) = (?b : List Stmt)) → List Stmt) ?h
  case g => exact fun _ => ?b
  case h => (conv => lhs; whnf)
@[reducible] noncomputable def fS7 : Scope := by
  refine (?g : (fnS (inCls (stAt 7) 4) = (?b : Scope)) → Scope) ?h
  case g => exact fun _ => ?b
  case h => (conv => lhs; whnf)
@[reducible] noncomputable def fA8 : Arguments := by
  refine (?g : (fnA (inCls (stAt 7) 5) = (?b : Arguments)) → Arguments) ?h
  case g => exact fun _ => ?b
  case h => (conv => lhs; whnf)
@[reducible] noncomputable def fB8 : List Stmt := by
  refine (?g : (fnB (inCls (stAt 7) 5) = (?b : List Stmt)) → List Stmt) ?h
  case g => exact fun _ => ?b
  case h => (conv => lhs; whnf)
@[reducible] noncomputable def fS8 : Scope := by
  refine (?g : (fnS (inCls (stAt 7) 5) = (?b : Scope)) → Scope) ?h
  case g => exact fun _ => ?b
  case h => (conv => lhs; whnf)
@[reducible] noncomputable def fA9 : Arguments := by
  refine (?g : (fnA (inCls (stAt 7) 6) = (?b : Arguments)) → Arguments) ?h
  case g => exact fun _ => ?b
  case h => (conv => lhs; whnf)
@[reducible] noncomputable def fB9 : List Stmt := by
  refine (?g : (fnB (inCls (stAt 7) 6) = (?b : List Stmt)) → List Stmt) ?h
  case g => exact fun _ => ?b
  case h => (conv => lhs; whnf)
@[reducible] noncomputable def fS9 : Scope := by
  refine (?g : (fnS (inCls (stAt 7) 6) = (?b : Scope)) → Scope) ?h
  case g => exact fun _ => ?b
  case h => (conv => lhs; whnf)
@[reducible] noncomputable def fA10 : Arguments := by
  refine (?g : (fnA (inCls (stAt 7) 7) = (?b : Arguments)) → Arguments) ?h
  case g => exact fun _ => ?b
  case h => (conv => lhs; whnf)
@[reducible] noncomputable def fB10 : List Stmt := by
  refine (?g : (fnB (inCls (stAt 7) 7) = (?b : List Stmt)) → List Stmt) ?h
  case g => exact fun _ => ?b
  case h => (conv => lhs; whnf)
@[reducible] noncomputable def fS10 : Scope := by
  refine (?g : (fnS (inCls (stAt 7) 7) = (?b : Scope)) → Scope) ?h
  case g => exact fun _ => ?b
  case h => (conv => lhs; whnf)
@[reducible] noncomputable def fA11 : Arguments := by
  refine (?g : (fnA (inCls (stAt 7) 8) = (?b : Arguments)) → Arguments) ?h
  case g => exact fun _ => ?b
  case h => (conv => lhs; whnf)
@[reducible] noncomputable def fB11 : List Stmt := by
  refine (?g : (fnB (inCls (stAt 7) 8) = (?b : List Stmt)) → List Stmt) ?h
  case g => exact fun _ => ?b
  case h => (conv => lhs; whnf)
@[reducible] noncomputable def fS11 : Scope := by
  refine (?g : (fnS (inCls (stAt 7) 8) = (?b : Scope)) → Scope) ?h
  case g => exact fun _ => ?b
  case h => (conv => lhs; whnf)
@[reducible] noncomputable def fA12 : Arguments := by
  refine (?g : (fnA (inCls (stAt 7) 9) = (?b : Arguments)) → Arguments) ?h
  case g => exact fun _ => ?b
  case h => (conv => lhs; whnf)
@[reducible] noncomputable def fB12 : List Stmt := by
  refine (?g : (fnB (inCls (stAt 7) 9) = (?b : List Stmt)) → List Stmt) ?h
  case g => exact fun _ => ?b
  case h => (conv => lhs; whnf)
@[reducible] noncomputable def fS12 : Scope := by
  refine (?g : (fnS (inCls (stAt 7) 9) = (?b : Scope)) → Scope) ?h
  case g => exact fun _ => ?b
  case h => (conv => lhs; whnf)
@[reducible] noncomputable def fA13 : Arguments := by
  refine (?g : (fnA (inCls (stAt 7) 10) = (?b : Arguments)) → Arguments) ?h
  case g => exact fun _ => ?b
  case h => (conv => lhs; whnf)
@[reducible] noncomputable def fB13 : List Stmt := by
  refine (?g : (fnB (inCls (stAt 7) 10) = (?b : List Stmt)) → List Stmt) ?h
  case g => exact fun _ => ?b
  case h => (conv => lhs; whnf)
@[reducible] noncomputable def fS13 : Scope := by
  refine (?g : (fnS (inCls (stAt 7) 10) = (?b : Scope)) → Scope) ?h
  case g => exact fun _ => ?b
  case h => (conv => lhs; whnf)
@[reducible] noncomputable def fA14 : Arguments := by
  refine (?g : (fnA (stAt 8) = (?b : Arguments)) → Arguments) ?h
  case g => exact fun _ => ?b
  case h => (conv => lhs; whnf)
@[reducible] noncomputable def fB14 : List Stmt := by
  refine (?g : (fnB (stAt 8) = (?b : List Stmt)) → List Stmt) ?h
  case g => exact fun _ => ?b
  case h => (conv => lhs; whnf)
@[reducible] noncomputable def fS14 : Scope := by
  refine (?g : (fnS (stAt 8) = (?b : Scope)) → Scope) ?h
  case g => exact fun _ => ?b
  case h => (conv => lhs; whnf)
@[reducible] noncomputable def fA15 : Arguments := by
  refine (?g : (fnA (stAt 9) = (?b : Arguments)) → Arguments) ?h
  case g => exact fun _ => ?b
  case h => (conv => lhs; whnf)
@[reducible] noncomputable def fB15 : List Stmt := by
  refine (?g : (fnB (stAt 9) = (?b : List Stmt)) → List Stmt) ?h
  case g => exact fun _ => ?b
  case h => (conv => lhs; whnf)
@[reducible] noncomputable def fS15 : Scope := by
  refine (?g : (fnS (stAt 9) = (?b : Scope)) → Scope) ?h
  case g => exact fun _ => ?b
  case h => (conv => lhs; whnf)
@[reducible] noncomputable def fA16 : Arguments := by
  refine (?g : (fnA (stAt 10) = (?b : Arguments)) → Arguments) ?h
  case g => exact fun _ => ?b
  case h => (conv => lhs; whnf)
@[reducible] noncomputable def fB16 : List Stmt := by
  refine (?g : (fnB (stAt 10) = (?b : List Stmt)) → List Stmt) ?h
  case g => exact fun _ => ?b
  case h => (conv => lhs; whnf)
@[reducible] noncomputable def fS16 : Scope := by
  refine (?g : (fnS (stAt 10) = (?b : Scope)) → Scope) ?h
  case g => exact fun _ => ?b
  case h => (conv => lhs; whnf)
@[reducible] noncomputable def fA17 : Arguments := by
  refine (?g : (fnA (stAt 11) = (?b : Arguments)) → Arguments) ?h
  case g => exact fun _ => ?b
  case h => (conv => lhs; whnf)
@[reducible] noncomputable def fB17 : List Stmt := by
  refine (?g : (fnB (stAt 11) = (?b : List Stmt)) → List Stmt) ?h
  case g => exact fun _ => ?b
  case h => (conv => lhs; whnf)
@[reducible] noncomputable def fS17 : Scope := by
  refine (?g : (fnS (stAt 11) = (?b : Scope)) → Scope) ?h
  case g => exact fun _ => ?b
  case h => (conv => lhs; whnf)
@[reducible] noncomputable def fA18 : Arguments := by
  refine (?g : (fnA (stAt 12) = (?b : Arguments)) → Arguments) ?h
  case g => exact fun _ => ?b
  case h => (conv => lhs; whnf)
@[reducible] noncomputable def fB18 : List Stmt := by
  refine (?g : (fnB (stAt 12) = (?b : List Stmt)) → List Stmt) ?h
  case g => exact fun _ => ?b
  case h => (conv => lhs; whnf)
@[reducible] noncomputable def fS18 : Scope := by
  refine (?g : (fnS (stAt 12) = (?b : Scope)) → Scope) ?h
  case g => exact fun _ => ?b
  case h => (conv => lhs; whnf)
@[reducible] noncomputable def fA19 : Arguments := by
  refine (?g : (fnA (stAt 13) = (?b : Arguments)) → Arguments) ?h
  case g => exact fun _ => ?b
  case h => (conv => lhs; whnf)
@[reducible] noncomputable def fB19 : List Stmt := by
  refine (?g : (fnB (stAt 13) = (?b : List Stmt)) → List Stmt) ?h
  case g => exact fun _ => ?b
  case h => (conv => lhs; whnf)
@[reducible] noncomputable def fS19 : Scope := by
  refine (?g : (fnS (stAt 13) = (?b : Scope)) → Scope) ?h
  case g => exact fun _ => ?b
  case h => (conv => lhs; whnf)
@[reducible] noncomputable def fA20 : Arguments := by
  refine (?g : (fnA (stAt 14) = (?b : Arguments)) → Arguments) ?h
  case g => exact fun _ => ?b
  case h => (conv => lhs; whnf)
@[reducible] noncomputable def fB20 : List Stmt := by
  refine (?g : (fnB (stAt 14) = (?b : List Stmt)) → List Stmt) ?h
  case g => exact fun _ => ?b
  case h => (conv => lhs; whnf)
@[reducible] noncomputable def fS20 : Scope := by
  refine (?g : (fnS (stAt 14) = (?b : Scope)) → Scope) ?h
  case g => exact fun _ => ?b
  case h => (conv => lhs; whnf)
@[reducible] noncomputable def fA21 : Arguments := by
  refine (?g : (fnA (stAt 15) = (?b : Arguments)) → Arguments) ?h
  case g => exact fun _ => ?b
  case h => (conv => lhs; whnf)
@[reducible] noncomputable def fB21 : List Stmt := by
  refine (?g : (fnB (stAt 15) = (?b : List Stmt)) → List Stmt) ?h
  case g => exact fun _ => ?b
  case h => (conv => lhs; whnf)
@[reducible] noncomputable def fS21 : Scope := by
  refine (?g : (fnS (stAt 15) = (?b : Scope)) → Scope) ?h
  case g => exact fun _ => ?b
  case h => (conv => lhs; whnf)
@[reducible] noncomputable def fA22 : Arguments := by
  refine (?g : (fnA (stAt 16) = (?b : Arguments)) → Arguments) ?h
  case g => exact fun _ => ?b
  case h => (conv => lhs; whnf)
@[reducible] noncomputable def fB22 : List Stmt := by
  refine (?g : (fnB (stAt 16) = (?b : List Stmt)) → List Stmt) ?h
  case g => exact fun _ => ?b
  case h => (conv => lhs; whnf)
@[reducible] noncomputable def fS22 : Scope := by
  refine (?g : (fnS (stAt 16) = (?b : Scope)) → Scope) ?h
  case g => exact fun _ => ?b
  case h => (conv => lhs; whnf)
@[reducible] noncomputable def fA23 : Arguments := by
  refine (?g : (fnA (stAt 17) = (?b : Arguments)) → Arguments) ?h
  case g => exact fun _ => ?b
  case h => (conv => lhs; whnf)
@[reducible] noncomputable def fB23 : List Stmt := by
  refine (?g : (fnB (stAt 17) = (?b : List Stmt)) → List Stmt) ?h
  case g => exact fun _ => ?b
  case h => (conv => lhs; whnf)
@[reducible] noncomputable def fS23 : Scope := by
  refine (?g : (fnS (stAt 17) = (?b : Scope)) → Scope) ?h
  case g => exact fun _ => ?b
  case h => (conv => lhs; whnf)
@[reducible] noncomputable def fA24 : Arguments := by
  refine (?g : (fnA (stAt 21) = (?b : Arguments)) → Arguments) ?h
  case g => exact fun _ => ?b
  case h => (conv => lhs; whnf)
@[reducible] noncomputable def fB24 : List Stmt := by
  refine (?g : (fnB (stAt 21) = (?b : List Stmt)) → List Stmt) ?h
  case g => exact fun _ => ?b
  case h => (conv => lhs; whnf)
@[reducible] noncomputable def fS24 : Scope := by
  refine (?g : (fnS (stAt 21) = (?b : Scope)) → Scope) ?h
  case g => exact fun _ => ?b
  case h => (conv => lhs; whnf)
@[reducible] noncomputable def fA25 : Arguments := by
  refine (?g : (fnA (stAt 22) = (?b : Arguments)) → Arguments) ?h
  case g => exact fun _ => ?b
  case h => (conv => lhs; whnf)
@[reducible] noncomputable def fB25 : List Stmt := by
  refine (?g : (fnB (stAt 22) = (?b : List Stmt)) → List Stmt) ?h
  case g => exact fun _ => ?b
  case h => (conv => lhs; whnf)
@[reducible] noncomputable def fS25 : Scope := by
  refine (?g : (fnS (stAt 22) = (?b : Scope)) → Scope) ?h
  case g => exact fun _ => ?b
  case h => (conv => lhs; whnf)
@[reducible] noncomputable def fA26 : Arguments := by
  refine (?g : (fnA (stAt 23) = (?b : Arguments)) → Arguments) ?h
  case g => exact fun _ => ?b
  case h => (conv => lhs; whnf)
@[reducible] noncomputable def fB26 : List Stmt := by
  refine (?g : (fnB (stAt 23) = (?b : List Stmt)) → List Stmt) ?h
  case g => exact fun _ => ?b
  case h => (conv => lhs; whnf)
@[reducible] noncomputable def fS26 : Scope := by
  refine (?g : (fnS (stAt 23) = (?b : Scope)) → Scope) ?h
  case g => exact fun _ => ?b
  case h => (conv => lhs; whnf)
@[reducible] noncomputable def fA27 : Arguments := by
  refine (?g : (fnA (stAt 24) = (?b : Arguments)) → Arguments) ?h
  case g => exact fun _ => ?b
  case h => (conv => lhs; whnf)
@[reducible] noncomputable def fB27 : List Stmt := by
  refine (?g : (fnB (stAt 24) = (?b : List Stmt)) → List Stmt) ?h
  case g => exact fun _ => ?b
  case h => (conv => lhs; whnf)
@[reducible] noncomputable def fS27 : Scope := by
  refine (?g : (fnS (stAt 24) = (?b : Scope)) → Scope) ?h
  case g => exact fun _ => ?b
  case h => (conv => lhs; whnf)
@[reducible] noncomputable def fA28 : Arguments := by
  refine (?g : (fnA (stAt 25) = (?b : Arguments)) → Arguments) ?h
  case g => exact fun _ => ?b
  case h => (conv => lhs; whnf)
@[reducible] noncomputable def fB28 : List Stmt := by
  refine (?g : (fnB (stAt 25) = (?b : List Stmt)) → List Stmt) ?h
  case g => exact fun _ => ?b
  case h => (conv => lhs; whnf)
@[reducible] noncomputable def fS28 : Scope := by
  refine (?g : (fnS (stAt 25) = (?b : Scope)) → Scope) ?h
  case g => exact fun _ => ?b
  case h => (conv => lhs; whnf)
@[reducible] noncomputable def fA29 : Arguments := by
  refine (?g : (fnA (stAt 26) = (?b : Arguments)) → Arguments) ?h
  case g => exact fun _ => ?b
  case h => (conv => lhs; whnf)
@[reducible] noncomputable def fB29 : List Stmt := by
  refine (?g : (fnB (stAt 26) = (?b : List Stmt)) → List Stmt) ?h
  case g => exact fun _ => ?b
  case h => (conv => lhs; whnf)
@[reducible] noncomputable def fS29 : Scope := by
  refine (?g : (fnS (stAt 26) = (?b : Scope)) → Scope) ?h
  case g => exact fun _ => ?b
  case h => (conv => lhs; whnf)
@[reducible] noncomputable def fA30 : Arguments := by
  refine (?g : (fnA (stAt 27) = (?b : Arguments)) → Arguments) ?h
  case g => exact fun _ => ?b
  case h => (conv => lhs; whnf)
@[reducible] noncomputable def fB30 : List Stmt := by
  refine (?g : (fnB (stAt 27) = (?b : List Stmt)) → List Stmt) ?h
  case g => exact fun _ => ?b
  case h => (conv => lhs; whnf)
@[reducible] noncomputable def fS30 : Scope := by
  refine (?g : (fnS (stAt 27) = (?b : Scope)) → Scope) ?h
  case g => exact fun _ => ?b
  case h => (conv => lhs; whnf)
@[reducible] noncomputable def fA31 : Arguments := by
  refine (?g : (fnA (stAt 28) = (?b : Arguments)) → Arguments) ?h
  case g => exact fun _ => ?b
  case h => (conv => lhs; whnf)
@[reducible] noncomputable def fB31 : List Stmt := by
  refine (?g : (fnB (stAt 28) = (?b : List Stmt)) → List Stmt) ?h
  case g => exact fun _ => ?b
  case h => (conv => lhs; whnf)
@[reducible] noncomputable def fS31 : Scope := by
  refine (?g : (fnS (stAt 28) = (?b : Scope)) → Scope) ?h
  case g => exact fun _ => ?b
  case h => (conv => lhs; whnf)
noncomputable def K : Params → Frag := fun P =>
  (nat_lit 2, (Obj.mk Value.none none (Data.dict (List.toArray [(DictEntry.mk (PyData.keyHash P (Str.ofString "type.__subclasses__.Exception.0")) (Value.str (Str.ofString "type.__subclasses__.Exception.0") 223) (Value.int 38 0)), (DictEntry.mk (PyData.keyHash P (Str.ofString "type.__subclasses__.Exception.n")) (Value.str (Str.ofString "type.__subclasses__.Exception.n") 224) (Value.int 1 0))]) 2) (List.toArray []))) ::
  (nat_lit 3, (Obj.mk (Value.type "dict") none (Data.dict (List.toArray [(DictEntry.mk (PyData.keyHash P (Str.ofString "__name__")) (Value.str (Str.ofString "__name__") 165) (Value.str (Str.ofString "law_sa0222_01") 455)), (DictEntry.mk (PyData.keyHash P (Str.ofString "__doc__")) (Value.str (Str.ofString "__doc__") 166) Value.none), (DictEntry.mk (PyData.keyHash P (Str.ofString "__package__")) (Value.str (Str.ofString "__package__") 167) Value.none), (DictEntry.mk (PyData.keyHash P (Str.ofString "__loader__")) (Value.str (Str.ofString "__loader__") 168) (Value.builtin "__main__.__loader__#opaque")), (DictEntry.mk (PyData.keyHash P (Str.ofString "__spec__")) (Value.str (Str.ofString "__spec__") 169) Value.none), (DictEntry.mk (PyData.keyHash P (Str.ofString "__annotations__")) (Value.str (Str.ofString "__annotations__") 170) (Value.ref 6)), (DictEntry.mk (PyData.keyHash P (Str.ofString "__builtins__")) (Value.str (Str.ofString "__builtins__") 171) (Value.ref 4)), (DictEntry.mk (PyData.keyHash P (Str.ofString "__file__")) (Value.str (Str.ofString "__file__") 173) (Value.str (Str.ofString "/claim/cut.py") 172)), (DictEntry.mk (PyData.keyHash P (Str.ofString "__cached__")) (Value.str (Str.ofString "__cached__") 174) Value.none), (DictEntry.mk (PyData.keyHash P (Str.ofString "_wall")) (Value.str (Str.ofString "_wall") 193) (Value.ref 21)), (DictEntry.mk (PyData.keyHash P (Str.ofString "RuneError")) (Value.str (Str.ofString "RuneError") 226) (Value.ref 38)), (DictEntry.mk (PyData.keyHash P (Str.ofString "BadImage")) (Value.str (Str.ofString "BadImage") 242) (Value.ref 51)), (DictEntry.mk (PyData.keyHash P (Str.ofString "BadSig")) (Value.str (Str.ofString "BadSig") 258) (Value.ref 63)), (DictEntry.mk (PyData.keyHash P (Str.ofString "take_number")) (Value.str (Str.ofString "take_number") 270) (Value.ref 72)), (DictEntry.mk (PyData.keyHash P (Str.ofString "In")) (Value.str (Str.ofString "In") 372) (Value.ref 159)), (DictEntry.mk (PyData.keyHash P (Str.ofString "spread_wide")) (Value.str (Str.ofString "spread_wide") 380) (Value.ref 170)), (DictEntry.mk (PyData.keyHash P (Str.ofString "uint_width")) (Value.str (Str.ofString "uint_width") 387) (Value.ref 177)), (DictEntry.mk (PyData.keyHash P (Str.ofString "compress_uint")) (Value.str (Str.ofString "compress_uint") 394) (Value.ref 184)), (DictEntry.mk (PyData.keyHash P (Str.ofString "take_wide")) (Value.str (Str.ofString "take_wide") 405) (Value.ref 191)), (DictEntry.mk (PyData.keyHash P (Str.ofString "read_uint")) (Value.str (Str.ofString "read_uint") 412) (Value.ref 198)), (DictEntry.mk (PyData.keyHash P (Str.ofString "read_uint_strict")) (Value.str (Str.ofString "read_uint_strict") 421) (Value.ref 205)), (DictEntry.mk (PyData.keyHash P (Str.ofString "int_width")) (Value.str (Str.ofString "int_width") 428) (Value.ref 212)), (DictEntry.mk (PyData.keyHash P (Str.ofString "width_bits")) (Value.str (Str.ofString "width_bits") 435) (Value.ref 219)), (DictEntry.mk (PyData.keyHash P (Str.ofString "compress_int")) (Value.str (Str.ofString "compress_int") 445) (Value.ref 226)), (DictEntry.mk (PyData.keyHash P (Str.ofString "read_int")) (Value.str (Str.ofString "read_int") 454) (Value.ref 233)), (DictEntry.mk (PyData.keyHash P (Str.ofString "_law_EDGES")) (Value.str (Str.ofString "_law_EDGES") 464) (Value.ref 234)), (DictEntry.mk (PyData.keyHash P (Str.ofString "_law_FORMS")) (Value.str (Str.ofString "_law_FORMS") 471) (Value.ref 238)), (DictEntry.mk (PyData.keyHash P (Str.ofString "_law_digits")) (Value.str (Str.ofString "_law_digits") 477) (Value.ref 243)), (DictEntry.mk (PyData.keyHash P (Str.ofString "_law_number")) (Value.str (Str.ofString "_law_number") 486) (Value.ref 250)), (DictEntry.mk (PyData.keyHash P (Str.ofString "_law_value")) (Value.str (Str.ofString "_law_value") 496) (Value.ref 257)), (DictEntry.mk (PyData.keyHash P (Str.ofString "_law_octets")) (Value.str (Str.ofString "_law_octets") 502) (Value.ref 262)), (DictEntry.mk (PyData.keyHash P (Str.ofString "_law_look")) (Value.str (Str.ofString "_law_look") 508) (Value.ref 267)), (DictEntry.mk (PyData.keyHash P (Str.ofString "_law_taken")) (Value.str (Str.ofString "_law_taken") 516) (Value.ref 274)), (DictEntry.mk (PyData.keyHash P (Str.ofString "_law_wild")) (Value.str (Str.ofString "_law_wild") 523) (Value.ref 281)), (DictEntry.mk (PyData.keyHash P (Str.ofString "law")) (Value.str (Str.ofString "law") 529) (Value.ref 286))]) 35) (List.toArray []))) ::
  (nat_lit 15, (Obj.mk (Value.type "tuple") none (Data.seq (List.toArray []) 0) (List.toArray []))) ::
  (nat_lit 17, (Obj.mk (Value.type "tuple") none (Data.seq (List.toArray [(Value.str (Str.ofString "k") 190)]) 0) (List.toArray []))) ::
  (nat_lit 18, (Obj.mk (Value.type "tuple") none (Data.seq (List.toArray []) 0) (List.toArray []))) ::
  (nat_lit 20, (Obj.mk (Value.type "code") none (Data.fields (List.toArray [(Value.str (Str.ofString "_wall") 187), (Value.str (Str.ofString "_wall") 188), (Value.str (Str.ofString "/claim/cut.py") 189), (Value.int 1 0), (Value.int 1 0), (Value.int 0 0), (Value.int 0 0), (Value.int 3 0), (Value.ref 15), (Value.bool Bool.true), (Value.int 181 0), (Value.ref 16), Value.none, (Value.ref 17), (Value.ref 18), (Value.ref 19), (Value.int 191 0), (Value.int 1 0), (Value.str (Str.ofString "/claim/cut.py") 192)])) (List.toArray []))) ::
  (nat_lit 21, (Obj.mk (Value.type "function") none (Data.func (FuncData.mk (Str.ofString "_wall") (Str.ofString "_wall") fA0 (.stmts fB0) fS0 3 [] Value.none Value.none Value.none (Value.str (Str.ofString "__main__") 164) none (Value.ref 20) Value.none 0)) (List.toArray []))) ::
  (nat_lit 22, (Obj.mk (Value.type "tuple") none (Data.seq (List.toArray [(Value.type "Exception")]) 0) (List.toArray []))) ::
  (nat_lit 29, (Obj.mk (Value.type "tuple") none (Data.seq (List.toArray []) 0) (List.toArray []))) ::
  (nat_lit 31, (Obj.mk (Value.type "tuple") none (Data.seq (List.toArray [(Value.str (Str.ofString "self") 211), (Value.str (Str.ofString "code") 212), (Value.str (Str.ofString "at") 213)]) 0) (List.toArray []))) ::
  (nat_lit 32, (Obj.mk (Value.type "tuple") none (Data.seq (List.toArray []) 0) (List.toArray []))) ::
  (nat_lit 34, (Obj.mk (Value.type "code") none (Data.fields (List.toArray [(Value.str (Str.ofString "__init__") 208), (Value.str (Str.ofString "RuneError.__init__") 209), (Value.str (Str.ofString "/claim/cut.py") 210), (Value.int 7 0), (Value.int 3 0), (Value.int 0 0), (Value.int 0 0), (Value.int 3 0), (Value.ref 29), (Value.bool Bool.true), (Value.int 181 0), (Value.ref 30), Value.none, (Value.ref 31), (Value.ref 32), (Value.ref 33), (Value.int 214 0), (Value.int 7 0), (Value.str (Str.ofString "/claim/cut.py") 215)])) (List.toArray []))) ::
  (nat_lit 35, (Obj.mk (Value.type "function") none (Data.func (FuncData.mk (Str.ofString "__init__") (Str.ofString "RuneError.__init__") fA1 (.stmts fB1) fS1 3 [] Value.none Value.none Value.none (Value.str (Str.ofString "framerune.faults") 194) none (Value.ref 34) Value.none 0)) (List.toArray []))) ::
  (nat_lit 36, (Obj.mk (Value.type "tuple") none (Data.seq (List.toArray [(Value.str (Str.ofString "at") 217), (Value.str (Str.ofString "code") 218)]) 0) (List.toArray []))) ::
  (nat_lit 37, (Obj.mk (Value.type "dict") none (Data.dict (List.toArray [(DictEntry.mk (PyData.keyHash P (Str.ofString "__module__")) (Value.str (Str.ofString "__module__") 203) (Value.str (Str.ofString "framerune.faults") 194)), (DictEntry.mk (PyData.keyHash P (Str.ofString "__firstlineno__")) (Value.str (Str.ofString "__firstlineno__") 207) (Value.int 5 206)), (DictEntry.mk (PyData.keyHash P (Str.ofString "__init__")) (Value.str (Str.ofString "__init__") 216) (Value.ref 35)), (DictEntry.mk (PyData.keyHash P (Str.ofString "__static_attributes__")) (Value.str (Str.ofString "__static_attributes__") 219) (Value.ref 36)), (DictEntry.mk (PyData.keyHash P (Str.ofString "__weakref__")) (Value.str (Str.ofString "__weakref__") 221) (Value.ref 39)), (DictEntry.mk (PyData.keyHash P (Str.ofString "__doc__")) (Value.str (Str.ofString "__doc__") 222) Value.none)]) 3) (List.toArray []))) ::
  (nat_lit 38, (Obj.mk (Value.type "type") none (Data.cls (ClassData.mk (Str.ofString "RuneError") [(Value.type "Exception")] [(Value.ref 38), (Value.type "Exception"), (Value.type "BaseException"), (Value.type "object")] 37 (Str.ofString "RuneError") Bool.true [] [(Value.ref 51), (Value.ref 63)] Bool.false none Bool.false)) (List.toArray [(some (Value.ref 22)), none, (some (Value.str (Str.ofString "RuneError") 196)), (some (Value.str (Str.ofString "RuneError") 204)), (some (Value.builtin "Exception.__new__")), (some (Value.bool Bool.true))]))) ::
  (nat_lit 39, (Obj.mk (Value.type "getset_descriptor") none (Data.fields (List.toArray [(Value.str (Str.ofString "__weakref__") 220), (Value.ref 38), (Value.builtin "ExceptionGroup.__weakref__"), Value.none])) (List.toArray []))) ::
  (nat_lit 42, (Obj.mk (Value.type "tuple") none (Data.seq (List.toArray [(Value.ref 38)]) 0) (List.toArray []))) ::
  (nat_lit 49, (Obj.mk (Value.type "tuple") none (Data.seq (List.toArray []) 0) (List.toArray []))) ::
  (nat_lit 50, (Obj.mk (Value.type "dict") none (Data.dict (List.toArray [(DictEntry.mk (PyData.keyHash P (Str.ofString "__module__")) (Value.str (Str.ofString "__module__") 234) (Value.str (Str.ofString "framerune.faults") 194)), (DictEntry.mk (PyData.keyHash P (Str.ofString "__firstlineno__")) (Value.str (Str.ofString "__firstlineno__") 238) (Value.int 10 237)), (DictEntry.mk (PyData.keyHash P (Str.ofString "__static_attributes__")) (Value.str (Str.ofString "__static_attributes__") 239) (Value.ref 49)), (DictEntry.mk (PyData.keyHash P (Str.ofString "__doc__")) (Value.str (Str.ofString "__doc__") 240) Value.none)]) 2) (List.toArray []))) ::
  (nat_lit 51, (Obj.mk (Value.type "type") none (Data.cls (ClassData.mk (Str.ofString "BadImage") [(Value.ref 38)] [(Value.ref 51), (Value.ref 38), (Value.type "Exception"), (Value.type "BaseException"), (Value.type "object")] 50 (Str.ofString "BadImage") Bool.true [] [] Bool.false none Bool.false)) (List.toArray [(some (Value.ref 42)), none, (some (Value.str (Str.ofString "BadImage") 227)), (some (Value.str (Str.ofString "BadImage") 235)), (some (Value.builtin "Exception.__new__")), (some (Value.bool Bool.true))]))) ::
  (nat_lit 54, (Obj.mk (Value.type "tuple") none (Data.seq (List.toArray [(Value.ref 38)]) 0) (List.toArray []))) ::
  (nat_lit 61, (Obj.mk (Value.type "tuple") none (Data.seq (List.toArray []) 0) (List.toArray []))) ::
  (nat_lit 62, (Obj.mk (Value.type "dict") none (Data.dict (List.toArray [(DictEntry.mk (PyData.keyHash P (Str.ofString "__module__")) (Value.str (Str.ofString "__module__") 250) (Value.str (Str.ofString "framerune.faults") 194)), (DictEntry.mk (PyData.keyHash P (Str.ofString "__firstlineno__")) (Value.str (Str.ofString "__firstlineno__") 254) (Value.int 12 253)), (DictEntry.mk (PyData.keyHash P (Str.ofString "__static_attributes__")) (Value.str (Str.ofString "__static_attributes__") 255) (Value.ref 61)), (DictEntry.mk (PyData.keyHash P (Str.ofString "__doc__")) (Value.str (Str.ofString "__doc__") 256) Value.none)]) 2) (List.toArray []))) ::
  (nat_lit 63, (Obj.mk (Value.type "type") none (Data.cls (ClassData.mk (Str.ofString "BadSig") [(Value.ref 38)] [(Value.ref 63), (Value.ref 38), (Value.type "Exception"), (Value.type "BaseException"), (Value.type "object")] 62 (Str.ofString "BadSig") Bool.true [] [] Bool.false none Bool.false)) (List.toArray [(some (Value.ref 54)), none, (some (Value.str (Str.ofString "BadSig") 243)), (some (Value.str (Str.ofString "BadSig") 251)), (some (Value.builtin "Exception.__new__")), (some (Value.bool Bool.true))]))) ::
  (nat_lit 66, (Obj.mk (Value.type "tuple") none (Data.seq (List.toArray []) 0) (List.toArray []))) ::
  (nat_lit 68, (Obj.mk (Value.type "tuple") none (Data.seq (List.toArray [(Value.str (Str.ofString "inp") 264), (Value.str (Str.ofString "count") 265), (Value.str (Str.ofString "n") 266), (Value.str (Str.ofString "place") 267)]) 0) (List.toArray []))) ::
  (nat_lit 69, (Obj.mk (Value.type "tuple") none (Data.seq (List.toArray []) 0) (List.toArray []))) ::
  (nat_lit 71, (Obj.mk (Value.type "code") none (Data.fields (List.toArray [(Value.str (Str.ofString "take_number") 261), (Value.str (Str.ofString "take_number") 262), (Value.str (Str.ofString "/claim/cut.py") 263), (Value.int 15 0), (Value.int 2 0), (Value.int 0 0), (Value.int 0 0), (Value.int 3 0), (Value.ref 66), (Value.bool Bool.true), (Value.int 181 0), (Value.ref 67), Value.none, (Value.ref 68), (Value.ref 69), (Value.ref 70), (Value.int 268 0), (Value.int 15 0), (Value.str (Str.ofString "/claim/cut.py") 269)])) (List.toArray []))) ::
  (nat_lit 72, (Obj.mk (Value.type "function") none (Data.func (FuncData.mk (Str.ofString "take_number") (Str.ofString "take_number") fA2 (.stmts fB2) fS2 3 [] Value.none Value.none Value.none (Value.str (Str.ofString "framerune.octets") 259) none (Value.ref 71) Value.none 0)) (List.toArray []))) ::
  (nat_lit 80, (Obj.mk (Value.type "tuple") none (Data.seq (List.toArray []) 0) (List.toArray []))) ::
  (nat_lit 82, (Obj.mk (Value.type "tuple") none (Data.seq (List.toArray [(Value.str (Str.ofString "self") 286), (Value.str (Str.ofString "data") 287)]) 0) (List.toArray []))) ::
  (nat_lit 83, (Obj.mk (Value.type "tuple") none (Data.seq (List.toArray []) 0) (List.toArray []))) ::
  (nat_lit 85, (Obj.mk (Value.type "code") none (Data.fields (List.toArray [(Value.str (Str.ofString "__init__") 283), (Value.str (Str.ofString "In.__init__") 284), (Value.str (Str.ofString "/claim/cut.py") 285), (Value.int 25 0), (Value.int 2 0), (Value.int 0 0), (Value.int 0 0), (Value.int 3 0), (Value.ref 80), (Value.bool Bool.true), (Value.int 181 0), (Value.ref 81), Value.none, (Value.ref 82), (Value.ref 83), (Value.ref 84), (Value.int 288 0), (Value.int 25 0), (Value.str (Str.ofString "/claim/cut.py") 289)])) (List.toArray []))) ::
  (nat_lit 86, (Obj.mk (Value.type "function") none (Data.func (FuncData.mk (Str.ofString "__init__") (Str.ofString "In.__init__") fA3 (.stmts fB3) fS3 3 [] Value.none Value.none Value.none (Value.str (Str.ofString "framerune.octets") 259) none (Value.ref 85) Value.none 0)) (List.toArray []))) ::
  (nat_lit 87, (Obj.mk (Value.type "tuple") none (Data.seq (List.toArray []) 0) (List.toArray []))) ::
  (nat_lit 89, (Obj.mk (Value.type "tuple") none (Data.seq (List.toArray [(Value.str (Str.ofString "self") 294)]) 0) (List.toArray []))) ::
  (nat_lit 90, (Obj.mk (Value.type "tuple") none (Data.seq (List.toArray []) 0) (List.toArray []))) ::
  (nat_lit 92, (Obj.mk (Value.type "code") none (Data.fields (List.toArray [(Value.str (Str.ofString "u8") 291), (Value.str (Str.ofString "In.u8") 292), (Value.str (Str.ofString "/claim/cut.py") 293), (Value.int 30 0), (Value.int 1 0), (Value.int 0 0), (Value.int 0 0), (Value.int 3 0), (Value.ref 87), (Value.bool Bool.true), (Value.int 181 0), (Value.ref 88), Value.none, (Value.ref 89), (Value.ref 90), (Value.ref 91), (Value.int 295 0), (Value.int 30 0), (Value.str (Str.ofString "/claim/cut.py") 296)])) (List.toArray []))) ::
  (nat_lit 93, (Obj.mk (Value.type "function") none (Data.func (FuncData.mk (Str.ofString "u8") (Str.ofString "In.u8") fA4 (.stmts fB4) fS4 3 [] Value.none Value.none Value.none (Value.str (Str.ofString "framerune.octets") 259) none (Value.ref 92) Value.none 0)) (List.toArray []))) ::
  (nat_lit 94, (Obj.mk (Value.type "tuple") none (Data.seq (List.toArray []) 0) (List.toArray []))) ::
  (nat_lit 96, (Obj.mk (Value.type "tuple") none (Data.seq (List.toArray [(Value.str (Str.ofString "self") 301)]) 0) (List.toArray []))) ::
  (nat_lit 97, (Obj.mk (Value.type "tuple") none (Data.seq (List.toArray []) 0) (List.toArray []))) ::
  (nat_lit 99, (Obj.mk (Value.type "code") none (Data.fields (List.toArray [(Value.str (Str.ofString "u16") 298), (Value.str (Str.ofString "In.u16") 299), (Value.str (Str.ofString "/claim/cut.py") 300), (Value.int 33 0), (Value.int 1 0), (Value.int 0 0), (Value.int 0 0), (Value.int 3 0), (Value.ref 94), (Value.bool Bool.true), (Value.int 181 0), (Value.ref 95), Value.none, (Value.ref 96), (Value.ref 97), (Value.ref 98), (Value.int 302 0), (Value.int 33 0), (Value.str (Str.ofString "/claim/cut.py") 303)])) (List.toArray []))) ::
  (nat_lit 100, (Obj.mk (Value.type "function") none (Data.func (FuncData.mk (Str.ofString "u16") (Str.ofString "In.u16") fA5 (.stmts fB5) fS5 3 [] Value.none Value.none Value.none (Value.str (Str.ofString "framerune.octets") 259) none (Value.ref 99) Value.none 0)) (List.toArray []))) ::
  (nat_lit 101, (Obj.mk (Value.type "tuple") none (Data.seq (List.toArray []) 0) (List.toArray []))) ::
  (nat_lit 103, (Obj.mk (Value.type "tuple") none (Data.seq (List.toArray [(Value.str (Str.ofString "self") 308)]) 0) (List.toArray []))) ::
  (nat_lit 104, (Obj.mk (Value.type "tuple") none (Data.seq (List.toArray []) 0) (List.toArray []))) ::
  (nat_lit 106, (Obj.mk (Value.type "code") none (Data.fields (List.toArray [(Value.str (Str.ofString "u32") 305), (Value.str (Str.ofString "In.u32") 306), (Value.str (Str.ofString "/claim/cut.py") 307), (Value.int 36 0), (Value.int 1 0), (Value.int 0 0), (Value.int 0 0), (Value.int 3 0), (Value.ref 101), (Value.bool Bool.true), (Value.int 181 0), (Value.ref 102), Value.none, (Value.ref 103), (Value.ref 104), (Value.ref 105), (Value.int 309 0), (Value.int 36 0), (Value.str (Str.ofString "/claim/cut.py") 310)])) (List.toArray []))) ::
  (nat_lit 107, (Obj.mk (Value.type "function") none (Data.func (FuncData.mk (Str.ofString "u32") (Str.ofString "In.u32") fA6 (.stmts fB6) fS6 3 [] Value.none Value.none Value.none (Value.str (Str.ofString "framerune.octets") 259) none (Value.ref 106) Value.none 0)) (List.toArray []))) ::
  (nat_lit 108, (Obj.mk (Value.type "tuple") none (Data.seq (List.toArray []) 0) (List.toArray []))) ::
  (nat_lit 110, (Obj.mk (Value.type "tuple") none (Data.seq (List.toArray [(Value.str (Str.ofString "self") 315)]) 0) (List.toArray []))) ::
  (nat_lit 111, (Obj.mk (Value.type "tuple") none (Data.seq (List.toArray []) 0) (List.toArray []))) ::
  (nat_lit 113, (Obj.mk (Value.type "code") none (Data.fields (List.toArray [(Value.str (Str.ofString "u64") 312), (Value.str (Str.ofString "In.u64") 313), (Value.str (Str.ofString "/claim/cut.py") 314), (Value.int 39 0), (Value.int 1 0), (Value.int 0 0), (Value.int 0 0), (Value.int 3 0), (Value.ref 108), (Value.bool Bool.true), (Value.int 181 0), (Value.ref 109), Value.none, (Value.ref 110), (Value.ref 111), (Value.ref 112), (Value.int 316 0), (Value.int 39 0), (Value.str (Str.ofString "/claim/cut.py") 317)])) (List.toArray []))) ::
  (nat_lit 114, (Obj.mk (Value.type "function") none (Data.func (FuncData.mk (Str.ofString "u64") (Str.ofString "In.u64") fA7 (.stmts fB7) fS7 3 [] Value.none Value.none Value.none (Value.str (Str.ofString "framerune.octets") 259) none (Value.ref 113) Value.none 0)) (List.toArray []))) ::
  (nat_lit 115, (Obj.mk (Value.type "tuple") none (Data.seq (List.toArray []) 0) (List.toArray []))) ::
  (nat_lit 117, (Obj.mk (Value.type "tuple") none (Data.seq (List.toArray [(Value.str (Str.ofString "self") 322)]) 0) (List.toArray []))) ::
  (nat_lit 118, (Obj.mk (Value.type "tuple") none (Data.seq (List.toArray []) 0) (List.toArray []))) ::
  (nat_lit 120, (Obj.mk (Value.type "code") none (Data.fields (List.toArray [(Value.str (Str.ofString "i8") 319), (Value.str (Str.ofString "In.i8") 320), (Value.str (Str.ofString "/claim/cut.py") 321), (Value.int 42 0), (Value.int 1 0), (Value.int 0 0), (Value.int 0 0), (Value.int 3 0), (Value.ref 115), (Value.bool Bool.true), (Value.int 181 0), (Value.ref 116), Value.none, (Value.ref 117), (Value.ref 118), (Value.ref 119), (Value.int 323 0), (Value.int 42 0), (Value.str (Str.ofString "/claim/cut.py") 324)])) (List.toArray []))) ::
  (nat_lit 121, (Obj.mk (Value.type "function") none (Data.func (FuncData.mk (Str.ofString "i8") (Str.ofString "In.i8") fA8 (.stmts fB8) fS8 3 [] Value.none Value.none Value.none (Value.str (Str.ofString "framerune.octets") 259) none (Value.ref 120) Value.none 0)) (List.toArray []))) ::
  (nat_lit 122, (Obj.mk (Value.type "tuple") none (Data.seq (List.toArray []) 0) (List.toArray []))) ::
  (nat_lit 124, (Obj.mk (Value.type "tuple") none (Data.seq (List.toArray [(Value.str (Str.ofString "self") 329)]) 0) (List.toArray []))) ::
  (nat_lit 125, (Obj.mk (Value.type "tuple") none (Data.seq (List.toArray []) 0) (List.toArray []))) ::
  (nat_lit 127, (Obj.mk (Value.type "code") none (Data.fields (List.toArray [(Value.str (Str.ofString "i16") 326), (Value.str (Str.ofString "In.i16") 327), (Value.str (Str.ofString "/claim/cut.py") 328), (Value.int 45 0), (Value.int 1 0), (Value.int 0 0), (Value.int 0 0), (Value.int 3 0), (Value.ref 122), (Value.bool Bool.true), (Value.int 181 0), (Value.ref 123), Value.none, (Value.ref 124), (Value.ref 125), (Value.ref 126), (Value.int 330 0), (Value.int 45 0), (Value.str (Str.ofString "/claim/cut.py") 331)])) (List.toArray []))) ::
  (nat_lit 128, (Obj.mk (Value.type "function") none (Data.func (FuncData.mk (Str.ofString "i16") (Str.ofString "In.i16") fA9 (.stmts fB9) fS9 3 [] Value.none Value.none Value.none (Value.str (Str.ofString "framerune.octets") 259) none (Value.ref 127) Value.none 0)) (List.toArray []))) ::
  (nat_lit 129, (Obj.mk (Value.type "tuple") none (Data.seq (List.toArray []) 0) (List.toArray []))) ::
  (nat_lit 131, (Obj.mk (Value.type "tuple") none (Data.seq (List.toArray [(Value.str (Str.ofString "self") 336)]) 0) (List.toArray []))) ::
  (nat_lit 132, (Obj.mk (Value.type "tuple") none (Data.seq (List.toArray []) 0) (List.toArray []))) ::
  (nat_lit 134, (Obj.mk (Value.type "code") none (Data.fields (List.toArray [(Value.str (Str.ofString "i32") 333), (Value.str (Str.ofString "In.i32") 334), (Value.str (Str.ofString "/claim/cut.py") 335), (Value.int 48 0), (Value.int 1 0), (Value.int 0 0), (Value.int 0 0), (Value.int 3 0), (Value.ref 129), (Value.bool Bool.true), (Value.int 181 0), (Value.ref 130), Value.none, (Value.ref 131), (Value.ref 132), (Value.ref 133), (Value.int 337 0), (Value.int 48 0), (Value.str (Str.ofString "/claim/cut.py") 338)])) (List.toArray []))) ::
  (nat_lit 135, (Obj.mk (Value.type "function") none (Data.func (FuncData.mk (Str.ofString "i32") (Str.ofString "In.i32") fA10 (.stmts fB10) fS10 3 [] Value.none Value.none Value.none (Value.str (Str.ofString "framerune.octets") 259) none (Value.ref 134) Value.none 0)) (List.toArray []))) ::
  (nat_lit 136, (Obj.mk (Value.type "tuple") none (Data.seq (List.toArray []) 0) (List.toArray []))) ::
  (nat_lit 138, (Obj.mk (Value.type "tuple") none (Data.seq (List.toArray [(Value.str (Str.ofString "self") 343)]) 0) (List.toArray []))) ::
  (nat_lit 139, (Obj.mk (Value.type "tuple") none (Data.seq (List.toArray []) 0) (List.toArray []))) ::
  (nat_lit 141, (Obj.mk (Value.type "code") none (Data.fields (List.toArray [(Value.str (Str.ofString "i64") 340), (Value.str (Str.ofString "In.i64") 341), (Value.str (Str.ofString "/claim/cut.py") 342), (Value.int 51 0), (Value.int 1 0), (Value.int 0 0), (Value.int 0 0), (Value.int 3 0), (Value.ref 136), (Value.bool Bool.true), (Value.int 181 0), (Value.ref 137), Value.none, (Value.ref 138), (Value.ref 139), (Value.ref 140), (Value.int 344 0), (Value.int 51 0), (Value.str (Str.ofString "/claim/cut.py") 345)])) (List.toArray []))) ::
  (nat_lit 142, (Obj.mk (Value.type "function") none (Data.func (FuncData.mk (Str.ofString "i64") (Str.ofString "In.i64") fA11 (.stmts fB11) fS11 3 [] Value.none Value.none Value.none (Value.str (Str.ofString "framerune.octets") 259) none (Value.ref 141) Value.none 0)) (List.toArray []))) ::
  (nat_lit 143, (Obj.mk (Value.type "tuple") none (Data.seq (List.toArray []) 0) (List.toArray []))) ::
  (nat_lit 145, (Obj.mk (Value.type "tuple") none (Data.seq (List.toArray [(Value.str (Str.ofString "self") 350), (Value.str (Str.ofString "n") 351)]) 0) (List.toArray []))) ::
  (nat_lit 146, (Obj.mk (Value.type "tuple") none (Data.seq (List.toArray []) 0) (List.toArray []))) ::
  (nat_lit 148, (Obj.mk (Value.type "code") none (Data.fields (List.toArray [(Value.str (Str.ofString "raw") 347), (Value.str (Str.ofString "In.raw") 348), (Value.str (Str.ofString "/claim/cut.py") 349), (Value.int 54 0), (Value.int 2 0), (Value.int 0 0), (Value.int 0 0), (Value.int 3 0), (Value.ref 143), (Value.bool Bool.true), (Value.int 181 0), (Value.ref 144), Value.none, (Value.ref 145), (Value.ref 146), (Value.ref 147), (Value.int 352 0), (Value.int 54 0), (Value.str (Str.ofString "/claim/cut.py") 353)])) (List.toArray []))) ::
  (nat_lit 149, (Obj.mk (Value.type "function") none (Data.func (FuncData.mk (Str.ofString "raw") (Str.ofString "In.raw") fA12 (.stmts fB12) fS12 3 [] Value.none Value.none Value.none (Value.str (Str.ofString "framerune.octets") 259) none (Value.ref 148) Value.none 0)) (List.toArray []))) ::
  (nat_lit 150, (Obj.mk (Value.type "tuple") none (Data.seq (List.toArray []) 0) (List.toArray []))) ::
  (nat_lit 152, (Obj.mk (Value.type "tuple") none (Data.seq (List.toArray [(Value.str (Str.ofString "self") 358)]) 0) (List.toArray []))) ::
  (nat_lit 153, (Obj.mk (Value.type "tuple") none (Data.seq (List.toArray []) 0) (List.toArray []))) ::
  (nat_lit 155, (Obj.mk (Value.type "code") none (Data.fields (List.toArray [(Value.str (Str.ofString "left") 355), (Value.str (Str.ofString "In.left") 356), (Value.str (Str.ofString "/claim/cut.py") 357), (Value.int 57 0), (Value.int 1 0), (Value.int 0 0), (Value.int 0 0), (Value.int 3 0), (Value.ref 150), (Value.bool Bool.true), (Value.int 181 0), (Value.ref 151), Value.none, (Value.ref 152), (Value.ref 153), (Value.ref 154), (Value.int 359 0), (Value.int 57 0), (Value.str (Str.ofString "/claim/cut.py") 360)])) (List.toArray []))) ::
  (nat_lit 156, (Obj.mk (Value.type "function") none (Data.func (FuncData.mk (Str.ofString "left") (Str.ofString "In.left") fA13 (.stmts fB13) fS13 3 [] Value.none Value.none Value.none (Value.str (Str.ofString "framerune.octets") 259) none (Value.ref 155) Value.none 0)) (List.toArray []))) ::
  (nat_lit 157, (Obj.mk (Value.type "tuple") none (Data.seq (List.toArray [(Value.str (Str.ofString "at") 362), (Value.str (Str.ofString "data") 363), (Value.str (Str.ofString "end") 364)]) 0) (List.toArray []))) ::
  (nat_lit 158, (Obj.mk (Value.type "dict") none (Data.dict (List.toArray [(DictEntry.mk (PyData.keyHash P (Str.ofString "__module__")) (Value.str (Str.ofString "__module__") 278) (Value.str (Str.ofString "framerune.octets") 259)), (DictEntry.mk (PyData.keyHash P (Str.ofString "__firstlineno__")) (Value.str (Str.ofString "__firstlineno__") 282) (Value.int 23 281)), (DictEntry.mk (PyData.keyHash P (Str.ofString "__init__")) (Value.str (Str.ofString "__init__") 290) (Value.ref 86)), (DictEntry.mk (PyData.keyHash P (Str.ofString "u8")) (Value.str (Str.ofString "u8") 297) (Value.ref 93)), (DictEntry.mk (PyData.keyHash P (Str.ofString "u16")) (Value.str (Str.ofString "u16") 304) (Value.ref 100)), (DictEntry.mk (PyData.keyHash P (Str.ofString "u32")) (Value.str (Str.ofString "u32") 311) (Value.ref 107)), (DictEntry.mk (PyData.keyHash P (Str.ofString "u64")) (Value.str (Str.ofString "u64") 318) (Value.ref 114)), (DictEntry.mk (PyData.keyHash P (Str.ofString "i8")) (Value.str (Str.ofString "i8") 325) (Value.ref 121)), (DictEntry.mk (PyData.keyHash P (Str.ofString "i16")) (Value.str (Str.ofString "i16") 332) (Value.ref 128)), (DictEntry.mk (PyData.keyHash P (Str.ofString "i32")) (Value.str (Str.ofString "i32") 339) (Value.ref 135)), (DictEntry.mk (PyData.keyHash P (Str.ofString "i64")) (Value.str (Str.ofString "i64") 346) (Value.ref 142)), (DictEntry.mk (PyData.keyHash P (Str.ofString "raw")) (Value.str (Str.ofString "raw") 354) (Value.ref 149)), (DictEntry.mk (PyData.keyHash P (Str.ofString "left")) (Value.str (Str.ofString "left") 361) (Value.ref 156)), (DictEntry.mk (PyData.keyHash P (Str.ofString "__static_attributes__")) (Value.str (Str.ofString "__static_attributes__") 365) (Value.ref 157)), (DictEntry.mk (PyData.keyHash P (Str.ofString "__dict__")) (Value.str (Str.ofString "__dict__") 367) (Value.ref 160)), (DictEntry.mk (PyData.keyHash P (Str.ofString "__weakref__")) (Value.str (Str.ofString "__weakref__") 369) (Value.ref 161)), (DictEntry.mk (PyData.keyHash P (Str.ofString "__doc__")) (Value.str (Str.ofString "__doc__") 370) Value.none)]) 4) (List.toArray []))) ::
  (nat_lit 159, (Obj.mk (Value.type "type") none (Data.cls (ClassData.mk (Str.ofString "In") [(Value.type "object")] [(Value.ref 159), (Value.type "object")] 158 (Str.ofString "In") Bool.true [] [] Bool.false none Bool.false)) (List.toArray [none, none, (some (Value.str (Str.ofString "In") 271)), (some (Value.str (Str.ofString "In") 279)), (some (Value.builtin "object.__new__")), (some (Value.bool Bool.true))]))) ::
  (nat_lit 160, (Obj.mk (Value.type "getset_descriptor") none (Data.fields (List.toArray [(Value.str (Str.ofString "__dict__") 366), (Value.ref 159), (Value.builtin "function.__dict__"), (Value.builtin "function.__dict__#set")])) (List.toArray []))) ::
  (nat_lit 161, (Obj.mk (Value.type "getset_descriptor") none (Data.fields (List.toArray [(Value.str (Str.ofString "__weakref__") 368), (Value.ref 159), (Value.builtin "ExceptionGroup.__weakref__"), Value.none])) (List.toArray []))) ::
  (nat_lit 164, (Obj.mk (Value.type "tuple") none (Data.seq (List.toArray []) 0) (List.toArray []))) ::
  (nat_lit 166, (Obj.mk (Value.type "tuple") none (Data.seq (List.toArray [(Value.str (Str.ofString "n") 376), (Value.str (Str.ofString "width") 377)]) 0) (List.toArray []))) ::
  (nat_lit 167, (Obj.mk (Value.type "tuple") none (Data.seq (List.toArray []) 0) (List.toArray []))) ::
  (nat_lit 169, (Obj.mk (Value.type "code") none (Data.fields (List.toArray [(Value.str (Str.ofString "spread_wide") 373), (Value.str (Str.ofString "spread_wide") 374), (Value.str (Str.ofString "/claim/cut.py") 375), (Value.int 59 0), (Value.int 2 0), (Value.int 0 0), (Value.int 0 0), (Value.int 3 0), (Value.ref 164), (Value.bool Bool.true), (Value.int 181 0), (Value.ref 165), Value.none, (Value.ref 166), (Value.ref 167), (Value.ref 168), (Value.int 378 0), (Value.int 59 0), (Value.str (Str.ofString "/claim/cut.py") 379)])) (List.toArray []))) ::
  (nat_lit 170, (Obj.mk (Value.type "function") none (Data.func (FuncData.mk (Str.ofString "spread_wide") (Str.ofString "spread_wide") fA14 (.stmts fB14) fS14 3 [] Value.none Value.none Value.none (Value.str (Str.ofString "framerune.octets") 259) none (Value.ref 169) Value.none 0)) (List.toArray []))) ::
  (nat_lit 171, (Obj.mk (Value.type "tuple") none (Data.seq (List.toArray []) 0) (List.toArray []))) ::
  (nat_lit 173, (Obj.mk (Value.type "tuple") none (Data.seq (List.toArray [(Value.str (Str.ofString "n") 384)]) 0) (List.toArray []))) ::
  (nat_lit 174, (Obj.mk (Value.type "tuple") none (Data.seq (List.toArray []) 0) (List.toArray []))) ::
  (nat_lit 176, (Obj.mk (Value.type "code") none (Data.fields (List.toArray [(Value.str (Str.ofString "uint_width") 381), (Value.str (Str.ofString "uint_width") 382), (Value.str (Str.ofString "/claim/cut.py") 383), (Value.int 65 0), (Value.int 1 0), (Value.int 0 0), (Value.int 0 0), (Value.int 3 0), (Value.ref 171), (Value.bool Bool.true), (Value.int 181 0), (Value.ref 172), Value.none, (Value.ref 173), (Value.ref 174), (Value.ref 175), (Value.int 385 0), (Value.int 65 0), (Value.str (Str.ofString "/claim/cut.py") 386)])) (List.toArray []))) ::
  (nat_lit 177, (Obj.mk (Value.type "function") none (Data.func (FuncData.mk (Str.ofString "uint_width") (Str.ofString "uint_width") fA15 (.stmts fB15) fS15 3 [] Value.none Value.none Value.none (Value.str (Str.ofString "framerune.octets") 259) none (Value.ref 176) Value.none 0)) (List.toArray []))) ::
  (nat_lit 178, (Obj.mk (Value.type "tuple") none (Data.seq (List.toArray []) 0) (List.toArray []))) ::
  (nat_lit 180, (Obj.mk (Value.type "tuple") none (Data.seq (List.toArray [(Value.str (Str.ofString "n") 391)]) 0) (List.toArray []))) ::
  (nat_lit 181, (Obj.mk (Value.type "tuple") none (Data.seq (List.toArray []) 0) (List.toArray []))) ::
  (nat_lit 183, (Obj.mk (Value.type "code") none (Data.fields (List.toArray [(Value.str (Str.ofString "compress_uint") 388), (Value.str (Str.ofString "compress_uint") 389), (Value.str (Str.ofString "/claim/cut.py") 390), (Value.int 73 0), (Value.int 1 0), (Value.int 0 0), (Value.int 0 0), (Value.int 3 0), (Value.ref 178), (Value.bool Bool.true), (Value.int 181 0), (Value.ref 179), Value.none, (Value.ref 180), (Value.ref 181), (Value.ref 182), (Value.int 392 0), (Value.int 73 0), (Value.str (Str.ofString "/claim/cut.py") 393)])) (List.toArray []))) ::
  (nat_lit 184, (Obj.mk (Value.type "function") none (Data.func (FuncData.mk (Str.ofString "compress_uint") (Str.ofString "compress_uint") fA16 (.stmts fB16) fS16 3 [] Value.none Value.none Value.none (Value.str (Str.ofString "framerune.octets") 259) none (Value.ref 183) Value.none 0)) (List.toArray []))) ::
  (nat_lit 185, (Obj.mk (Value.type "tuple") none (Data.seq (List.toArray []) 0) (List.toArray []))) ::
  (nat_lit 187, (Obj.mk (Value.type "tuple") none (Data.seq (List.toArray [(Value.str (Str.ofString "inp") 398), (Value.str (Str.ofString "began") 399), (Value.str (Str.ofString "first") 400), (Value.str (Str.ofString "n") 401), (Value.str (Str.ofString "_turn") 402)]) 0) (List.toArray []))) ::
  (nat_lit 188, (Obj.mk (Value.type "tuple") none (Data.seq (List.toArray []) 0) (List.toArray []))) ::
  (nat_lit 190, (Obj.mk (Value.type "code") none (Data.fields (List.toArray [(Value.str (Str.ofString "take_wide") 395), (Value.str (Str.ofString "take_wide") 396), (Value.str (Str.ofString "/claim/cut.py") 397), (Value.int 75 0), (Value.int 1 0), (Value.int 0 0), (Value.int 0 0), (Value.int 3 0), (Value.ref 185), (Value.bool Bool.true), (Value.int 181 0), (Value.ref 186), Value.none, (Value.ref 187), (Value.ref 188), (Value.ref 189), (Value.int 403 0), (Value.int 75 0), (Value.str (Str.ofString "/claim/cut.py") 404)])) (List.toArray []))) ::
  (nat_lit 191, (Obj.mk (Value.type "function") none (Data.func (FuncData.mk (Str.ofString "take_wide") (Str.ofString "take_wide") fA17 (.stmts fB17) fS17 3 [] Value.none Value.none Value.none (Value.str (Str.ofString "framerune.octets") 259) none (Value.ref 190) Value.none 0)) (List.toArray []))) ::
  (nat_lit 192, (Obj.mk (Value.type "tuple") none (Data.seq (List.toArray []) 0) (List.toArray []))) ::
  (nat_lit 194, (Obj.mk (Value.type "tuple") none (Data.seq (List.toArray [(Value.str (Str.ofString "inp") 409)]) 0) (List.toArray []))) ::
  (nat_lit 195, (Obj.mk (Value.type "tuple") none (Data.seq (List.toArray []) 0) (List.toArray []))) ::
  (nat_lit 197, (Obj.mk (Value.type "code") none (Data.fields (List.toArray [(Value.str (Str.ofString "read_uint") 406), (Value.str (Str.ofString "read_uint") 407), (Value.str (Str.ofString "/claim/cut.py") 408), (Value.int 88 0), (Value.int 1 0), (Value.int 0 0), (Value.int 0 0), (Value.int 3 0), (Value.ref 192), (Value.bool Bool.true), (Value.int 181 0), (Value.ref 193), Value.none, (Value.ref 194), (Value.ref 195), (Value.ref 196), (Value.int 410 0), (Value.int 88 0), (Value.str (Str.ofString "/claim/cut.py") 411)])) (List.toArray []))) ::
  (nat_lit 198, (Obj.mk (Value.type "function") none (Data.func (FuncData.mk (Str.ofString "read_uint") (Str.ofString "read_uint") fA18 (.stmts fB18) fS18 3 [] Value.none Value.none Value.none (Value.str (Str.ofString "framerune.octets") 259) none (Value.ref 197) Value.none 0)) (List.toArray []))) ::
  (nat_lit 199, (Obj.mk (Value.type "tuple") none (Data.seq (List.toArray []) 0) (List.toArray []))) ::
  (nat_lit 201, (Obj.mk (Value.type "tuple") none (Data.seq (List.toArray [(Value.str (Str.ofString "inp") 416), (Value.str (Str.ofString "began") 417), (Value.str (Str.ofString "pair") 418)]) 0) (List.toArray []))) ::
  (nat_lit 202, (Obj.mk (Value.type "tuple") none (Data.seq (List.toArray []) 0) (List.toArray []))) ::
  (nat_lit 204, (Obj.mk (Value.type "code") none (Data.fields (List.toArray [(Value.str (Str.ofString "read_uint_strict") 413), (Value.str (Str.ofString "read_uint_strict") 414), (Value.str (Str.ofString "/claim/cut.py") 415), (Value.int 90 0), (Value.int 1 0), (Value.int 0 0), (Value.int 0 0), (Value.int 3 0), (Value.ref 199), (Value.bool Bool.true), (Value.int 181 0), (Value.ref 200), Value.none, (Value.ref 201), (Value.ref 202), (Value.ref 203), (Value.int 419 0), (Value.int 90 0), (Value.str (Str.ofString "/claim/cut.py") 420)])) (List.toArray []))) ::
  (nat_lit 205, (Obj.mk (Value.type "function") none (Data.func (FuncData.mk (Str.ofString "read_uint_strict") (Str.ofString "read_uint_strict") fA19 (.stmts fB19) fS19 3 [] Value.none Value.none Value.none (Value.str (Str.ofString "framerune.octets") 259) none (Value.ref 204) Value.none 0)) (List.toArray []))) ::
  (nat_lit 206, (Obj.mk (Value.type "tuple") none (Data.seq (List.toArray []) 0) (List.toArray []))) ::
  (nat_lit 208, (Obj.mk (Value.type "tuple") none (Data.seq (List.toArray [(Value.str (Str.ofString "n") 425)]) 0) (List.toArray []))) ::
  (nat_lit 209, (Obj.mk (Value.type "tuple") none (Data.seq (List.toArray []) 0) (List.toArray []))) ::
  (nat_lit 211, (Obj.mk (Value.type "code") none (Data.fields (List.toArray [(Value.str (Str.ofString "int_width") 422), (Value.str (Str.ofString "int_width") 423), (Value.str (Str.ofString "/claim/cut.py") 424), (Value.int 96 0), (Value.int 1 0), (Value.int 0 0), (Value.int 0 0), (Value.int 3 0), (Value.ref 206), (Value.bool Bool.true), (Value.int 181 0), (Value.ref 207), Value.none, (Value.ref 208), (Value.ref 209), (Value.ref 210), (Value.int 426 0), (Value.int 96 0), (Value.str (Str.ofString "/claim/cut.py") 427)])) (List.toArray []))) ::
  (nat_lit 212, (Obj.mk (Value.type "function") none (Data.func (FuncData.mk (Str.ofString "int_width") (Str.ofString "int_width") fA20 (.stmts fB20) fS20 3 [] Value.none Value.none Value.none (Value.str (Str.ofString "framerune.octets") 259) none (Value.ref 211) Value.none 0)) (List.toArray []))) ::
  (nat_lit 213, (Obj.mk (Value.type "tuple") none (Data.seq (List.toArray []) 0) (List.toArray []))) ::
  (nat_lit 215, (Obj.mk (Value.type "tuple") none (Data.seq (List.toArray [(Value.str (Str.ofString "width") 432)]) 0) (List.toArray []))) ::
  (nat_lit 216, (Obj.mk (Value.type "tuple") none (Data.seq (List.toArray []) 0) (List.toArray []))) ::
  (nat_lit 218, (Obj.mk (Value.type "code") none (Data.fields (List.toArray [(Value.str (Str.ofString "width_bits") 429), (Value.str (Str.ofString "width_bits") 430), (Value.str (Str.ofString "/claim/cut.py") 431), (Value.int 104 0), (Value.int 1 0), (Value.int 0 0), (Value.int 0 0), (Value.int 3 0), (Value.ref 213), (Value.bool Bool.true), (Value.int 181 0), (Value.ref 214), Value.none, (Value.ref 215), (Value.ref 216), (Value.ref 217), (Value.int 433 0), (Value.int 104 0), (Value.str (Str.ofString "/claim/cut.py") 434)])) (List.toArray []))) ::
  (nat_lit 219, (Obj.mk (Value.type "function") none (Data.func (FuncData.mk (Str.ofString "width_bits") (Str.ofString "width_bits") fA21 (.stmts fB21) fS21 3 [] Value.none Value.none Value.none (Value.str (Str.ofString "framerune.octets") 259) none (Value.ref 218) Value.none 0)) (List.toArray []))) ::
  (nat_lit 220, (Obj.mk (Value.type "tuple") none (Data.seq (List.toArray []) 0) (List.toArray []))) ::
  (nat_lit 222, (Obj.mk (Value.type "tuple") none (Data.seq (List.toArray [(Value.str (Str.ofString "n") 439), (Value.str (Str.ofString "width") 440), (Value.str (Str.ofString "whole") 441), (Value.str (Str.ofString "turned") 442)]) 0) (List.toArray []))) ::
  (nat_lit 223, (Obj.mk (Value.type "tuple") none (Data.seq (List.toArray []) 0) (List.toArray []))) ::
  (nat_lit 225, (Obj.mk (Value.type "code") none (Data.fields (List.toArray [(Value.str (Str.ofString "compress_int") 436), (Value.str (Str.ofString "compress_int") 437), (Value.str (Str.ofString "/claim/cut.py") 438), (Value.int 110 0), (Value.int 1 0), (Value.int 0 0), (Value.int 0 0), (Value.int 3 0), (Value.ref 220), (Value.bool Bool.true), (Value.int 181 0), (Value.ref 221), Value.none, (Value.ref 222), (Value.ref 223), (Value.ref 224), (Value.int 443 0), (Value.int 110 0), (Value.str (Str.ofString "/claim/cut.py") 444)])) (List.toArray []))) ::
  (nat_lit 226, (Obj.mk (Value.type "function") none (Data.func (FuncData.mk (Str.ofString "compress_int") (Str.ofString "compress_int") fA22 (.stmts fB22) fS22 3 [] Value.none Value.none Value.none (Value.str (Str.ofString "framerune.octets") 259) none (Value.ref 225) Value.none 0)) (List.toArray []))) ::
  (nat_lit 227, (Obj.mk (Value.type "tuple") none (Data.seq (List.toArray []) 0) (List.toArray []))) ::
  (nat_lit 229, (Obj.mk (Value.type "tuple") none (Data.seq (List.toArray [(Value.str (Str.ofString "inp") 449), (Value.str (Str.ofString "pair") 450), (Value.str (Str.ofString "n") 451)]) 0) (List.toArray []))) ::
  (nat_lit 230, (Obj.mk (Value.type "tuple") none (Data.seq (List.toArray []) 0) (List.toArray []))) ::
  (nat_lit 232, (Obj.mk (Value.type "code") none (Data.fields (List.toArray [(Value.str (Str.ofString "read_int") 446), (Value.str (Str.ofString "read_int") 447), (Value.str (Str.ofString "/claim/cut.py") 448), (Value.int 117 0), (Value.int 1 0), (Value.int 0 0), (Value.int 0 0), (Value.int 3 0), (Value.ref 227), (Value.bool Bool.true), (Value.int 181 0), (Value.ref 228), Value.none, (Value.ref 229), (Value.ref 230), (Value.ref 231), (Value.int 452 0), (Value.int 117 0), (Value.str (Str.ofString "/claim/cut.py") 453)])) (List.toArray []))) ::
  (nat_lit 233, (Obj.mk (Value.type "function") none (Data.func (FuncData.mk (Str.ofString "read_int") (Str.ofString "read_int") fA23 (.stmts fB23) fS23 3 [] Value.none Value.none Value.none (Value.str (Str.ofString "framerune.octets") 259) none (Value.ref 232) Value.none 0)) (List.toArray []))) ::
  (nat_lit 234, (Obj.mk (Value.type "tuple") none (Data.seq (List.toArray [(Value.int 0 457), (Value.int 64 458), (Value.int 128 459), (Value.int 8192 460), (Value.int 16384 461), (Value.int 268435456 462), (Value.int 536870912 463)]) 0) (List.toArray []))) ::
  (nat_lit 235, (Obj.mk (Value.type "tuple") none (Data.seq (List.toArray [(Value.int 7 465), (Value.str (Str.ofString "0") 466)]) 0) (List.toArray []))) ::
  (nat_lit 236, (Obj.mk (Value.type "tuple") none (Data.seq (List.toArray [(Value.int 14 467), (Value.str (Str.ofString "10") 468)]) 0) (List.toArray []))) ::
  (nat_lit 237, (Obj.mk (Value.type "tuple") none (Data.seq (List.toArray [(Value.int 29 469), (Value.str (Str.ofString "110") 470)]) 0) (List.toArray []))) ::
  (nat_lit 238, (Obj.mk (Value.type "tuple") none (Data.seq (List.toArray [(Value.ref 235), (Value.ref 236), (Value.ref 237)]) 0) (List.toArray []))) ::
  (nat_lit 239, (Obj.mk (Value.type "tuple") none (Data.seq (List.toArray []) 0) (List.toArray []))) ::
  (nat_lit 242, (Obj.mk (Value.type "code") none (Data.fields (List.toArray [(Value.str (Str.ofString "_law_digits") 472), (Value.str (Str.ofString "_law_digits") 473), (Value.str (Str.ofString "/claim/cut.py") 474), (Value.int 126 0), (Value.int 2 0), (Value.int 0 0), (Value.int 0 0), (Value.int 3 0), (Value.ref 239), (Value.bool Bool.true), (Value.int 181 0), (Value.ref 240), Value.none, Value.none, Value.none, (Value.ref 241), (Value.int 475 0), (Value.int 126 0), (Value.str (Str.ofString "/claim/cut.py") 476)])) (List.toArray []))) ::
  (nat_lit 243, (Obj.mk (Value.type "function") none (Data.func (FuncData.mk (Str.ofString "_law_digits") (Str.ofString "_law_digits") fA24 (.stmts fB24) fS24 3 [] Value.none Value.none Value.none (Value.str (Str.ofString "law_sa0222_01") 455) none (Value.ref 242) Value.none 0)) (List.toArray []))) ::
  (nat_lit 244, (Obj.mk (Value.type "tuple") none (Data.seq (List.toArray []) 0) (List.toArray []))) ::
  (nat_lit 246, (Obj.mk (Value.type "tuple") none (Data.seq (List.toArray [(Value.str (Str.ofString "text") 481), (Value.str (Str.ofString "total") 482), (Value.str (Str.ofString "digit") 483)]) 0) (List.toArray []))) ::
  (nat_lit 247, (Obj.mk (Value.type "tuple") none (Data.seq (List.toArray []) 0) (List.toArray []))) ::
  (nat_lit 249, (Obj.mk (Value.type "code") none (Data.fields (List.toArray [(Value.str (Str.ofString "_law_number") 478), (Value.str (Str.ofString "_law_number") 479), (Value.str (Str.ofString "/claim/cut.py") 480), (Value.int 128 0), (Value.int 1 0), (Value.int 0 0), (Value.int 0 0), (Value.int 3 0), (Value.ref 244), (Value.bool Bool.true), (Value.int 181 0), (Value.ref 245), Value.none, (Value.ref 246), (Value.ref 247), (Value.ref 248), (Value.int 484 0), (Value.int 128 0), (Value.str (Str.ofString "/claim/cut.py") 485)])) (List.toArray []))) ::
  (nat_lit 250, (Obj.mk (Value.type "function") none (Data.func (FuncData.mk (Str.ofString "_law_number") (Str.ofString "_law_number") fA25 (.stmts fB25) fS25 3 [] Value.none Value.none Value.none (Value.str (Str.ofString "law_sa0222_01") 455) none (Value.ref 249) Value.none 0)) (List.toArray []))) ::
  (nat_lit 251, (Obj.mk (Value.type "tuple") none (Data.seq (List.toArray []) 0) (List.toArray []))) ::
  (nat_lit 253, (Obj.mk (Value.type "tuple") none (Data.seq (List.toArray [(Value.str (Str.ofString "n") 490), (Value.str (Str.ofString "x") 491), (Value.str (Str.ofString "edge") 492), (Value.str (Str.ofString "size") 493)]) 0) (List.toArray []))) ::
  (nat_lit 254, (Obj.mk (Value.type "tuple") none (Data.seq (List.toArray []) 0) (List.toArray []))) ::
  (nat_lit 256, (Obj.mk (Value.type "code") none (Data.fields (List.toArray [(Value.str (Str.ofString "_law_value") 487), (Value.str (Str.ofString "_law_value") 488), (Value.str (Str.ofString "/claim/cut.py") 489), (Value.int 133 0), (Value.int 1 0), (Value.int 0 0), (Value.int 0 0), (Value.int 3 0), (Value.ref 251), (Value.bool Bool.true), (Value.int 181 0), (Value.ref 252), Value.none, (Value.ref 253), (Value.ref 254), (Value.ref 255), (Value.int 494 0), (Value.int 133 0), (Value.str (Str.ofString "/claim/cut.py") 495)])) (List.toArray []))) ::
  (nat_lit 257, (Obj.mk (Value.type "function") none (Data.func (FuncData.mk (Str.ofString "_law_value") (Str.ofString "_law_value") fA26 (.stmts fB26) fS26 3 [] Value.none Value.none Value.none (Value.str (Str.ofString "law_sa0222_01") 455) none (Value.ref 256) Value.none 0)) (List.toArray []))) ::
  (nat_lit 258, (Obj.mk (Value.type "tuple") none (Data.seq (List.toArray []) 0) (List.toArray []))) ::
  (nat_lit 261, (Obj.mk (Value.type "code") none (Data.fields (List.toArray [(Value.str (Str.ofString "_law_octets") 497), (Value.str (Str.ofString "_law_octets") 498), (Value.str (Str.ofString "/claim/cut.py") 499), (Value.int 140 0), (Value.int 2 0), (Value.int 0 0), (Value.int 0 0), (Value.int 3 0), (Value.ref 258), (Value.bool Bool.true), (Value.int 181 0), (Value.ref 259), Value.none, Value.none, Value.none, (Value.ref 260), (Value.int 500 0), (Value.int 140 0), (Value.str (Str.ofString "/claim/cut.py") 501)])) (List.toArray []))) ::
  (nat_lit 262, (Obj.mk (Value.type "function") none (Data.func (FuncData.mk (Str.ofString "_law_octets") (Str.ofString "_law_octets") fA27 (.stmts fB27) fS27 3 [] Value.none Value.none Value.none (Value.str (Str.ofString "law_sa0222_01") 455) none (Value.ref 261) Value.none 0)) (List.toArray []))) ::
  (nat_lit 263, (Obj.mk (Value.type "tuple") none (Data.seq (List.toArray []) 0) (List.toArray []))) ::
  (nat_lit 266, (Obj.mk (Value.type "code") none (Data.fields (List.toArray [(Value.str (Str.ofString "_law_look") 503), (Value.str (Str.ofString "_law_look") 504), (Value.str (Str.ofString "/claim/cut.py") 505), (Value.int 151 0), (Value.int 3 0), (Value.int 0 0), (Value.int 0 0), (Value.int 3 0), (Value.ref 263), (Value.bool Bool.true), (Value.int 181 0), (Value.ref 264), Value.none, Value.none, Value.none, (Value.ref 265), (Value.int 506 0), (Value.int 151 0), (Value.str (Str.ofString "/claim/cut.py") 507)])) (List.toArray []))) ::
  (nat_lit 267, (Obj.mk (Value.type "function") none (Data.func (FuncData.mk (Str.ofString "_law_look") (Str.ofString "_law_look") fA28 (.stmts fB28) fS28 3 [] Value.none Value.none Value.none (Value.str (Str.ofString "law_sa0222_01") 455) none (Value.ref 266) Value.none 0)) (List.toArray []))) ::
  (nat_lit 268, (Obj.mk (Value.type "tuple") none (Data.seq (List.toArray []) 0) (List.toArray []))) ::
  (nat_lit 270, (Obj.mk (Value.type "tuple") none (Data.seq (List.toArray [(Value.str (Str.ofString "inp") 512), (Value.str (Str.ofString "way") 513)]) 0) (List.toArray []))) ::
  (nat_lit 271, (Obj.mk (Value.type "tuple") none (Data.seq (List.toArray []) 0) (List.toArray []))) ::
  (nat_lit 273, (Obj.mk (Value.type "code") none (Data.fields (List.toArray [(Value.str (Str.ofString "_law_taken") 509), (Value.str (Str.ofString "_law_taken") 510), (Value.str (Str.ofString "/claim/cut.py") 511), (Value.int 169 0), (Value.int 2 0), (Value.int 0 0), (Value.int 0 0), (Value.int 3 0), (Value.ref 268), (Value.bool Bool.true), (Value.int 181 0), (Value.ref 269), Value.none, (Value.ref 270), (Value.ref 271), (Value.ref 272), (Value.int 514 0), (Value.int 169 0), (Value.str (Str.ofString "/claim/cut.py") 515)])) (List.toArray []))) ::
  (nat_lit 274, (Obj.mk (Value.type "function") none (Data.func (FuncData.mk (Str.ofString "_law_taken") (Str.ofString "_law_taken") fA29 (.stmts fB29) fS29 3 [] Value.none Value.none Value.none (Value.str (Str.ofString "law_sa0222_01") 455) none (Value.ref 273) Value.none 0)) (List.toArray []))) ::
  (nat_lit 275, (Obj.mk (Value.type "tuple") none (Data.seq (List.toArray []) 0) (List.toArray []))) ::
  (nat_lit 277, (Obj.mk (Value.type "tuple") none (Data.seq (List.toArray [(Value.str (Str.ofString "n") 520)]) 0) (List.toArray []))) ::
  (nat_lit 278, (Obj.mk (Value.type "tuple") none (Data.seq (List.toArray []) 0) (List.toArray []))) ::
  (nat_lit 280, (Obj.mk (Value.type "code") none (Data.fields (List.toArray [(Value.str (Str.ofString "_law_wild") 517), (Value.str (Str.ofString "_law_wild") 518), (Value.str (Str.ofString "/claim/cut.py") 519), (Value.int 180 0), (Value.int 1 0), (Value.int 0 0), (Value.int 0 0), (Value.int 3 0), (Value.ref 275), (Value.bool Bool.true), (Value.int 181 0), (Value.ref 276), Value.none, (Value.ref 277), (Value.ref 278), (Value.ref 279), (Value.int 521 0), (Value.int 180 0), (Value.str (Str.ofString "/claim/cut.py") 522)])) (List.toArray []))) ::
  (nat_lit 281, (Obj.mk (Value.type "function") none (Data.func (FuncData.mk (Str.ofString "_law_wild") (Str.ofString "_law_wild") fA30 (.stmts fB30) fS30 3 [] Value.none Value.none Value.none (Value.str (Str.ofString "law_sa0222_01") 455) none (Value.ref 280) Value.none 0)) (List.toArray []))) ::
  (nat_lit 282, (Obj.mk (Value.type "tuple") none (Data.seq (List.toArray []) 0) (List.toArray []))) ::
  (nat_lit 285, (Obj.mk (Value.type "code") none (Data.fields (List.toArray [(Value.str (Str.ofString "law") 524), (Value.str (Str.ofString "law") 525), (Value.str (Str.ofString "/claim/cut.py") 526), (Value.int 186 0), (Value.int 1 0), (Value.int 0 0), (Value.int 0 0), (Value.int 3 0), (Value.ref 282), (Value.bool Bool.true), (Value.int 181 0), (Value.ref 283), Value.none, Value.none, Value.none, (Value.ref 284), (Value.int 527 0), (Value.int 186 0), (Value.str (Str.ofString "/claim/cut.py") 528)])) (List.toArray []))) ::
  (nat_lit 286, (Obj.mk (Value.type "function") none (Data.func (FuncData.mk (Str.ofString "law") (Str.ofString "law") fA31 (.stmts fB31) fS31 3 [] Value.none Value.none Value.none (Value.str (Str.ofString "law_sa0222_01") 455) none (Value.ref 285) Value.none 0)) (List.toArray []))) ::
  []
noncomputable def oK (P : Params) (a : Addr) : Obj := ((K P).lookup a).getD { cls := .none, data := .plain }
noncomputable def o11 : Params → Obj := fun P => (Obj.mk (Value.type "tuple") none (Data.seq (List.toArray []) 0) (List.toArray []))
noncomputable def o12 : Params → Obj := fun P => (Obj.mk Value.none none (Data.fields (List.toArray [(Value.int 1 0), (Value.int 0 0), (Value.ref 20), (Value.int 5 0), (Value.int 0 0), (Value.ref 27), (Value.int 10 0), (Value.int 0 0), (Value.ref 47), (Value.int 12 0), (Value.int 0 0), (Value.ref 59), (Value.int 15 0), (Value.int 0 0), (Value.ref 71), (Value.int 23 0), (Value.int 0 0), (Value.ref 78), (Value.int 59 0), (Value.int 0 0), (Value.ref 169), (Value.int 65 0), (Value.int 0 0), (Value.ref 176), (Value.int 73 0), (Value.int 0 0), (Value.ref 183), (Value.int 75 0), (Value.int 0 0), (Value.ref 190), (Value.int 88 0), (Value.int 0 0), (Value.ref 197), (Value.int 90 0), (Value.int 0 0), (Value.ref 204), (Value.int 96 0), (Value.int 0 0), (Value.ref 211), (Value.int 104 0), (Value.int 0 0), (Value.ref 218), (Value.int 110 0), (Value.int 0 0), (Value.ref 225), (Value.int 117 0), (Value.int 0 0), (Value.ref 232), (Value.int 126 0), (Value.int 0 0), (Value.ref 242), (Value.int 128 0), (Value.int 0 0), (Value.ref 249), (Value.int 133 0), (Value.int 0 0), (Value.ref 256), (Value.int 140 0), (Value.int 0 0), (Value.ref 261), (Value.int 151 0), (Value.int 0 0), (Value.ref 266), (Value.int 169 0), (Value.int 0 0), (Value.ref 273), (Value.int 180 0), (Value.int 0 0), (Value.ref 280), (Value.int 186 0), (Value.int 0 0), (Value.ref 285)])) (List.toArray []))
noncomputable def o13 : Params → Obj := fun P => (Obj.mk (Value.type "code") none (Data.fields (List.toArray [(Value.str (Str.ofString "<module>") 182), (Value.str (Str.ofString "<module>") 183), (Value.str (Str.ofString "/claim/cut.py") 184), (Value.int 1 0), (Value.int 0 0), (Value.int 0 0), (Value.int 0 0), (Value.int 0 0), (Value.ref 11), (Value.bool Bool.false), (Value.int 181 0), (Value.ref 12), Value.none, Value.none, Value.none, Value.none, (Value.int 185 0), (Value.int 1 0), (Value.str (Str.ofString "/claim/cut.py") 186)])) (List.toArray []))
noncomputable def o14 : Params → Obj := fun P => (Obj.mk (Value.type "frame") none Data.plain (List.toArray [(some (Value.ref 13)), (some (Value.ref 3)), (some (Value.ref 3)), none, (some (Value.str (Str.ofString "__main__") 164)), none, (some (Value.ref 0))]))
noncomputable def o16 : Params → Obj := fun P => (Obj.mk Value.none none (Data.fields (List.toArray [])) (List.toArray []))
noncomputable def o19 : Params → Obj := fun P => (Obj.mk Value.none none (Data.func (FuncData.mk (Str.ofString "_wall") (Str.ofString "_wall") fA0 (.stmts fB0) fS0 0 [] Value.none Value.none Value.none Value.none none Value.none Value.none 0)) (List.toArray []))
noncomputable def o23 : Params → Obj := fun P => (Obj.mk (Value.type "builtin_function_or_method") none (Data.fields (List.toArray [(Value.builtin "type.__prepare__"), (Value.type "type")])) (List.toArray []))
noncomputable def o24 : Params → Obj := fun P => (Obj.mk (Value.type "dict") none (Data.dict (List.toArray [(DictEntry.mk (PyData.keyHash P (Str.ofString "__module__")) (Value.str (Str.ofString "__module__") 203) (Value.str (Str.ofString "framerune.faults") 194)), (DictEntry.mk (PyData.keyHash P (Str.ofString "__qualname__")) (Value.str (Str.ofString "__qualname__") 205) (Value.str (Str.ofString "RuneError") 204)), (DictEntry.mk (PyData.keyHash P (Str.ofString "__firstlineno__")) (Value.str (Str.ofString "__firstlineno__") 207) (Value.int 5 206)), (DictEntry.mk (PyData.keyHash P (Str.ofString "__init__")) (Value.str (Str.ofString "__init__") 216) (Value.ref 35)), (DictEntry.mk (PyData.keyHash P (Str.ofString "__static_attributes__")) (Value.str (Str.ofString "__static_attributes__") 219) (Value.ref 36))]) 5) (List.toArray []))
noncomputable def o25 : Params → Obj := fun P => (Obj.mk (Value.type "tuple") none (Data.seq (List.toArray []) 0) (List.toArray []))
noncomputable def o26 : Params → Obj := fun P => (Obj.mk Value.none none (Data.fields (List.toArray [(Value.int 7 0), (Value.int 4 0), (Value.ref 34)])) (List.toArray []))
noncomputable def o27 : Params → Obj := fun P => (Obj.mk (Value.type "code") none (Data.fields (List.toArray [(Value.str (Str.ofString "RuneError") 198), (Value.str (Str.ofString "RuneError") 199), (Value.str (Str.ofString "/claim/cut.py") 200), (Value.int 5 0), (Value.int 0 0), (Value.int 0 0), (Value.int 0 0), (Value.int 0 0), (Value.ref 25), (Value.bool Bool.false), (Value.int 181 0), (Value.ref 26), Value.none, Value.none, Value.none, Value.none, (Value.int 201 0), (Value.int 5 0), (Value.str (Str.ofString "/claim/cut.py") 202)])) (List.toArray []))
noncomputable def o28 : Params → Obj := fun P => (Obj.mk (Value.type "frame") none Data.plain (List.toArray [(some (Value.ref 27)), (some (Value.ref 3)), (some (Value.ref 24)), none, (some (Value.str (Str.ofString "framerune.faults") 194)), none, (some (Value.ref 0))]))
noncomputable def o30 : Params → Obj := fun P => (Obj.mk Value.none none (Data.fields (List.toArray [])) (List.toArray []))
noncomputable def o33 : Params → Obj := fun P => (Obj.mk Value.none none (Data.func (FuncData.mk (Str.ofString "__init__") (Str.ofString "RuneError.__init__") fA1 (.stmts fB1) fS1 0 [] Value.none Value.none Value.none Value.none none Value.none Value.none 0)) (List.toArray []))
noncomputable def o40 : Params → Obj := fun P => (Obj.mk (Value.type "super") none (Data.fields (List.toArray [(Value.ref 38), (Value.ref 38), (Value.ref 38)])) (List.toArray []))
noncomputable def o41 : Params → Obj := fun P => (Obj.mk (Value.type "builtin_function_or_method") none (Data.fields (List.toArray [(Value.builtin "object.__init_subclass__"), (Value.ref 38)])) (List.toArray []))
noncomputable def o43 : Params → Obj := fun P => (Obj.mk (Value.type "builtin_function_or_method") none (Data.fields (List.toArray [(Value.builtin "type.__prepare__"), (Value.type "type")])) (List.toArray []))
noncomputable def o44 : Params → Obj := fun P => (Obj.mk (Value.type "dict") none (Data.dict (List.toArray [(DictEntry.mk (PyData.keyHash P (Str.ofString "__module__")) (Value.str (Str.ofString "__module__") 234) (Value.str (Str.ofString "framerune.faults") 194)), (DictEntry.mk (PyData.keyHash P (Str.ofString "__qualname__")) (Value.str (Str.ofString "__qualname__") 236) (Value.str (Str.ofString "BadImage") 235)), (DictEntry.mk (PyData.keyHash P (Str.ofString "__firstlineno__")) (Value.str (Str.ofString "__firstlineno__") 238) (Value.int 10 237)), (DictEntry.mk (PyData.keyHash P (Str.ofString "__static_attributes__")) (Value.str (Str.ofString "__static_attributes__") 239) (Value.ref 49))]) 4) (List.toArray []))
noncomputable def o45 : Params → Obj := fun P => (Obj.mk (Value.type "tuple") none (Data.seq (List.toArray []) 0) (List.toArray []))
noncomputable def o46 : Params → Obj := fun P => (Obj.mk Value.none none (Data.fields (List.toArray [])) (List.toArray []))
noncomputable def o47 : Params → Obj := fun P => (Obj.mk (Value.type "code") none (Data.fields (List.toArray [(Value.str (Str.ofString "BadImage") 229), (Value.str (Str.ofString "BadImage") 230), (Value.str (Str.ofString "/claim/cut.py") 231), (Value.int 10 0), (Value.int 0 0), (Value.int 0 0), (Value.int 0 0), (Value.int 0 0), (Value.ref 45), (Value.bool Bool.false), (Value.int 181 0), (Value.ref 46), Value.none, Value.none, Value.none, Value.none, (Value.int 232 0), (Value.int 10 0), (Value.str (Str.ofString "/claim/cut.py") 233)])) (List.toArray []))
noncomputable def o48 : Params → Obj := fun P => (Obj.mk (Value.type "frame") none Data.plain (List.toArray [(some (Value.ref 47)), (some (Value.ref 3)), (some (Value.ref 44)), none, (some (Value.str (Str.ofString "framerune.faults") 194)), none, (some (Value.ref 0))]))
noncomputable def o52 : Params → Obj := fun P => (Obj.mk (Value.type "super") none (Data.fields (List.toArray [(Value.ref 51), (Value.ref 51), (Value.ref 51)])) (List.toArray []))
noncomputable def o53 : Params → Obj := fun P => (Obj.mk (Value.type "builtin_function_or_method") none (Data.fields (List.toArray [(Value.builtin "object.__init_subclass__"), (Value.ref 51)])) (List.toArray []))
noncomputable def o55 : Params → Obj := fun P => (Obj.mk (Value.type "builtin_function_or_method") none (Data.fields (List.toArray [(Value.builtin "type.__prepare__"), (Value.type "type")])) (List.toArray []))
noncomputable def o56 : Params → Obj := fun P => (Obj.mk (Value.type "dict") none (Data.dict (List.toArray [(DictEntry.mk (PyData.keyHash P (Str.ofString "__module__")) (Value.str (Str.ofString "__module__") 250) (Value.str (Str.ofString "framerune.faults") 194)), (DictEntry.mk (PyData.keyHash P (Str.ofString "__qualname__")) (Value.str (Str.ofString "__qualname__") 252) (Value.str (Str.ofString "BadSig") 251)), (DictEntry.mk (PyData.keyHash P (Str.ofString "__firstlineno__")) (Value.str (Str.ofString "__firstlineno__") 254) (Value.int 12 253)), (DictEntry.mk (PyData.keyHash P (Str.ofString "__static_attributes__")) (Value.str (Str.ofString "__static_attributes__") 255) (Value.ref 61))]) 4) (List.toArray []))
noncomputable def o57 : Params → Obj := fun P => (Obj.mk (Value.type "tuple") none (Data.seq (List.toArray []) 0) (List.toArray []))
noncomputable def o58 : Params → Obj := fun P => (Obj.mk Value.none none (Data.fields (List.toArray [])) (List.toArray []))
noncomputable def o59 : Params → Obj := fun P => (Obj.mk (Value.type "code") none (Data.fields (List.toArray [(Value.str (Str.ofString "BadSig") 245), (Value.str (Str.ofString "BadSig") 246), (Value.str (Str.ofString "/claim/cut.py") 247), (Value.int 12 0), (Value.int 0 0), (Value.int 0 0), (Value.int 0 0), (Value.int 0 0), (Value.ref 57), (Value.bool Bool.false), (Value.int 181 0), (Value.ref 58), Value.none, Value.none, Value.none, Value.none, (Value.int 248 0), (Value.int 12 0), (Value.str (Str.ofString "/claim/cut.py") 249)])) (List.toArray []))
noncomputable def o60 : Params → Obj := fun P => (Obj.mk (Value.type "frame") none Data.plain (List.toArray [(some (Value.ref 59)), (some (Value.ref 3)), (some (Value.ref 56)), none, (some (Value.str (Str.ofString "framerune.faults") 194)), none, (some (Value.ref 0))]))
noncomputable def o64 : Params → Obj := fun P => (Obj.mk (Value.type "super") none (Data.fields (List.toArray [(Value.ref 63), (Value.ref 63), (Value.ref 63)])) (List.toArray []))
noncomputable def o65 : Params → Obj := fun P => (Obj.mk (Value.type "builtin_function_or_method") none (Data.fields (List.toArray [(Value.builtin "object.__init_subclass__"), (Value.ref 63)])) (List.toArray []))
noncomputable def o67 : Params → Obj := fun P => (Obj.mk Value.none none (Data.fields (List.toArray [])) (List.toArray []))
noncomputable def o70 : Params → Obj := fun P => (Obj.mk Value.none none (Data.func (FuncData.mk (Str.ofString "take_number") (Str.ofString "take_number") fA2 (.stmts fB2) fS2 0 [] Value.none Value.none Value.none Value.none none Value.none Value.none 0)) (List.toArray []))
noncomputable def o73 : Params → Obj := fun P => (Obj.mk (Value.type "tuple") none (Data.seq (List.toArray []) 0) (List.toArray []))
noncomputable def o74 : Params → Obj := fun P => (Obj.mk (Value.type "builtin_function_or_method") none (Data.fields (List.toArray [(Value.builtin "type.__prepare__"), (Value.type "type")])) (List.toArray []))
noncomputable def o75 : Params → Obj := fun P => (Obj.mk (Value.type "dict") none (Data.dict (List.toArray [(DictEntry.mk (PyData.keyHash P (Str.ofString "__module__")) (Value.str (Str.ofString "__module__") 278) (Value.str (Str.ofString "framerune.octets") 259)), (DictEntry.mk (PyData.keyHash P (Str.ofString "__qualname__")) (Value.str (Str.ofString "__qualname__") 280) (Value.str (Str.ofString "In") 279)), (DictEntry.mk (PyData.keyHash P (Str.ofString "__firstlineno__")) (Value.str (Str.ofString "__firstlineno__") 282) (Value.int 23 281)), (DictEntry.mk (PyData.keyHash P (Str.ofString "__init__")) (Value.str (Str.ofString "__init__") 290) (Value.ref 86)), (DictEntry.mk (PyData.keyHash P (Str.ofString "u8")) (Value.str (Str.ofString "u8") 297) (Value.ref 93)), (DictEntry.mk (PyData.keyHash P (Str.ofString "u16")) (Value.str (Str.ofString "u16") 304) (Value.ref 100)), (DictEntry.mk (PyData.keyHash P (Str.ofString "u32")) (Value.str (Str.ofString "u32") 311) (Value.ref 107)), (DictEntry.mk (PyData.keyHash P (Str.ofString "u64")) (Value.str (Str.ofString "u64") 318) (Value.ref 114)), (DictEntry.mk (PyData.keyHash P (Str.ofString "i8")) (Value.str (Str.ofString "i8") 325) (Value.ref 121)), (DictEntry.mk (PyData.keyHash P (Str.ofString "i16")) (Value.str (Str.ofString "i16") 332) (Value.ref 128)), (DictEntry.mk (PyData.keyHash P (Str.ofString "i32")) (Value.str (Str.ofString "i32") 339) (Value.ref 135)), (DictEntry.mk (PyData.keyHash P (Str.ofString "i64")) (Value.str (Str.ofString "i64") 346) (Value.ref 142)), (DictEntry.mk (PyData.keyHash P (Str.ofString "raw")) (Value.str (Str.ofString "raw") 354) (Value.ref 149)), (DictEntry.mk (PyData.keyHash P (Str.ofString "left")) (Value.str (Str.ofString "left") 361) (Value.ref 156)), (DictEntry.mk (PyData.keyHash P (Str.ofString "__static_attributes__")) (Value.str (Str.ofString "__static_attributes__") 365) (Value.ref 157))]) 15) (List.toArray []))
noncomputable def o76 : Params → Obj := fun P => (Obj.mk (Value.type "tuple") none (Data.seq (List.toArray []) 0) (List.toArray []))
noncomputable def o77 : Params → Obj := fun P => (Obj.mk Value.none none (Data.fields (List.toArray [(Value.int 25 0), (Value.int 4 0), (Value.ref 85), (Value.int 30 0), (Value.int 4 0), (Value.ref 92), (Value.int 33 0), (Value.int 4 0), (Value.ref 99), (Value.int 36 0), (Value.int 4 0), (Value.ref 106), (Value.int 39 0), (Value.int 4 0), (Value.ref 113), (Value.int 42 0), (Value.int 4 0), (Value.ref 120), (Value.int 45 0), (Value.int 4 0), (Value.ref 127), (Value.int 48 0), (Value.int 4 0), (Value.ref 134), (Value.int 51 0), (Value.int 4 0), (Value.ref 141), (Value.int 54 0), (Value.int 4 0), (Value.ref 148), (Value.int 57 0), (Value.int 4 0), (Value.ref 155)])) (List.toArray []))
noncomputable def o78 : Params → Obj := fun P => (Obj.mk (Value.type "code") none (Data.fields (List.toArray [(Value.str (Str.ofString "In") 273), (Value.str (Str.ofString "In") 274), (Value.str (Str.ofString "/claim/cut.py") 275), (Value.int 23 0), (Value.int 0 0), (Value.int 0 0), (Value.int 0 0), (Value.int 0 0), (Value.ref 76), (Value.bool Bool.false), (Value.int 181 0), (Value.ref 77), Value.none, Value.none, Value.none, Value.none, (Value.int 276 0), (Value.int 23 0), (Value.str (Str.ofString "/claim/cut.py") 277)])) (List.toArray []))
noncomputable def o79 : Params → Obj := fun P => (Obj.mk (Value.type "frame") none Data.plain (List.toArray [(some (Value.ref 78)), (some (Value.ref 3)), (some (Value.ref 75)), none, (some (Value.str (Str.ofString "framerune.octets") 259)), none, (some (Value.ref 0))]))
noncomputable def o81 : Params → Obj := fun P => (Obj.mk Value.none none (Data.fields (List.toArray [])) (List.toArray []))
noncomputable def o84 : Params → Obj := fun P => (Obj.mk Value.none none (Data.func (FuncData.mk (Str.ofString "__init__") (Str.ofString "In.__init__") fA3 (.stmts fB3) fS3 0 [] Value.none Value.none Value.none Value.none none Value.none Value.none 0)) (List.toArray []))
noncomputable def o88 : Params → Obj := fun P => (Obj.mk Value.none none (Data.fields (List.toArray [])) (List.toArray []))
noncomputable def o91 : Params → Obj := fun P => (Obj.mk Value.none none (Data.func (FuncData.mk (Str.ofString "u8") (Str.ofString "In.u8") fA4 (.stmts fB4) fS4 0 [] Value.none Value.none Value.none Value.none none Value.none Value.none 0)) (List.toArray []))
noncomputable def o95 : Params → Obj := fun P => (Obj.mk Value.none none (Data.fields (List.toArray [])) (List.toArray []))
noncomputable def o98 : Params → Obj := fun P => (Obj.mk Value.none none (Data.func (FuncData.mk (Str.ofString "u16") (Str.ofString "In.u16") fA5 (.stmts fB5) fS5 0 [] Value.none Value.none Value.none Value.none none Value.none Value.none 0)) (List.toArray []))
noncomputable def o102 : Params → Obj := fun P => (Obj.mk Value.none none (Data.fields (List.toArray [])) (List.toArray []))
noncomputable def o105 : Params → Obj := fun P => (Obj.mk Value.none none (Data.func (FuncData.mk (Str.ofString "u32") (Str.ofString "In.u32") fA6 (.stmts fB6) fS6 0 [] Value.none Value.none Value.none Value.none none Value.none Value.none 0)) (List.toArray []))
noncomputable def o109 : Params → Obj := fun P => (Obj.mk Value.none none (Data.fields (List.toArray [])) (List.toArray []))
noncomputable def o112 : Params → Obj := fun P => (Obj.mk Value.none none (Data.func (FuncData.mk (Str.ofString "u64") (Str.ofString "In.u64") fA7 (.stmts fB7) fS7 0 [] Value.none Value.none Value.none Value.none none Value.none Value.none 0)) (List.toArray []))
noncomputable def o116 : Params → Obj := fun P => (Obj.mk Value.none none (Data.fields (List.toArray [])) (List.toArray []))
noncomputable def o119 : Params → Obj := fun P => (Obj.mk Value.none none (Data.func (FuncData.mk (Str.ofString "i8") (Str.ofString "In.i8") fA8 (.stmts fB8) fS8 0 [] Value.none Value.none Value.none Value.none none Value.none Value.none 0)) (List.toArray []))
noncomputable def o123 : Params → Obj := fun P => (Obj.mk Value.none none (Data.fields (List.toArray [])) (List.toArray []))
noncomputable def o126 : Params → Obj := fun P => (Obj.mk Value.none none (Data.func (FuncData.mk (Str.ofString "i16") (Str.ofString "In.i16") fA9 (.stmts fB9) fS9 0 [] Value.none Value.none Value.none Value.none none Value.none Value.none 0)) (List.toArray []))
noncomputable def o130 : Params → Obj := fun P => (Obj.mk Value.none none (Data.fields (List.toArray [])) (List.toArray []))
noncomputable def o133 : Params → Obj := fun P => (Obj.mk Value.none none (Data.func (FuncData.mk (Str.ofString "i32") (Str.ofString "In.i32") fA10 (.stmts fB10) fS10 0 [] Value.none Value.none Value.none Value.none none Value.none Value.none 0)) (List.toArray []))
noncomputable def o137 : Params → Obj := fun P => (Obj.mk Value.none none (Data.fields (List.toArray [])) (List.toArray []))
noncomputable def o140 : Params → Obj := fun P => (Obj.mk Value.none none (Data.func (FuncData.mk (Str.ofString "i64") (Str.ofString "In.i64") fA11 (.stmts fB11) fS11 0 [] Value.none Value.none Value.none Value.none none Value.none Value.none 0)) (List.toArray []))
noncomputable def o144 : Params → Obj := fun P => (Obj.mk Value.none none (Data.fields (List.toArray [])) (List.toArray []))
noncomputable def o147 : Params → Obj := fun P => (Obj.mk Value.none none (Data.func (FuncData.mk (Str.ofString "raw") (Str.ofString "In.raw") fA12 (.stmts fB12) fS12 0 [] Value.none Value.none Value.none Value.none none Value.none Value.none 0)) (List.toArray []))
noncomputable def o151 : Params → Obj := fun P => (Obj.mk Value.none none (Data.fields (List.toArray [])) (List.toArray []))
noncomputable def o154 : Params → Obj := fun P => (Obj.mk Value.none none (Data.func (FuncData.mk (Str.ofString "left") (Str.ofString "In.left") fA13 (.stmts fB13) fS13 0 [] Value.none Value.none Value.none Value.none none Value.none Value.none 0)) (List.toArray []))
noncomputable def o162 : Params → Obj := fun P => (Obj.mk (Value.type "super") none (Data.fields (List.toArray [(Value.ref 159), (Value.ref 159), (Value.ref 159)])) (List.toArray []))
noncomputable def o163 : Params → Obj := fun P => (Obj.mk (Value.type "builtin_function_or_method") none (Data.fields (List.toArray [(Value.builtin "object.__init_subclass__"), (Value.ref 159)])) (List.toArray []))
noncomputable def o165 : Params → Obj := fun P => (Obj.mk Value.none none (Data.fields (List.toArray [])) (List.toArray []))
noncomputable def o168 : Params → Obj := fun P => (Obj.mk Value.none none (Data.func (FuncData.mk (Str.ofString "spread_wide") (Str.ofString "spread_wide") fA14 (.stmts fB14) fS14 0 [] Value.none Value.none Value.none Value.none none Value.none Value.none 0)) (List.toArray []))
noncomputable def o172 : Params → Obj := fun P => (Obj.mk Value.none none (Data.fields (List.toArray [])) (List.toArray []))
noncomputable def o175 : Params → Obj := fun P => (Obj.mk Value.none none (Data.func (FuncData.mk (Str.ofString "uint_width") (Str.ofString "uint_width") fA15 (.stmts fB15) fS15 0 [] Value.none Value.none Value.none Value.none none Value.none Value.none 0)) (List.toArray []))
noncomputable def o179 : Params → Obj := fun P => (Obj.mk Value.none none (Data.fields (List.toArray [])) (List.toArray []))
noncomputable def o182 : Params → Obj := fun P => (Obj.mk Value.none none (Data.func (FuncData.mk (Str.ofString "compress_uint") (Str.ofString "compress_uint") fA16 (.stmts fB16) fS16 0 [] Value.none Value.none Value.none Value.none none Value.none Value.none 0)) (List.toArray []))
noncomputable def o186 : Params → Obj := fun P => (Obj.mk Value.none none (Data.fields (List.toArray [])) (List.toArray []))
noncomputable def o189 : Params → Obj := fun P => (Obj.mk Value.none none (Data.func (FuncData.mk (Str.ofString "take_wide") (Str.ofString "take_wide") fA17 (.stmts fB17) fS17 0 [] Value.none Value.none Value.none Value.none none Value.none Value.none 0)) (List.toArray []))
noncomputable def o193 : Params → Obj := fun P => (Obj.mk Value.none none (Data.fields (List.toArray [])) (List.toArray []))
noncomputable def o196 : Params → Obj := fun P => (Obj.mk Value.none none (Data.func (FuncData.mk (Str.ofString "read_uint") (Str.ofString "read_uint") fA18 (.stmts fB18) fS18 0 [] Value.none Value.none Value.none Value.none none Value.none Value.none 0)) (List.toArray []))
noncomputable def o200 : Params → Obj := fun P => (Obj.mk Value.none none (Data.fields (List.toArray [])) (List.toArray []))
noncomputable def o203 : Params → Obj := fun P => (Obj.mk Value.none none (Data.func (FuncData.mk (Str.ofString "read_uint_strict") (Str.ofString "read_uint_strict") fA19 (.stmts fB19) fS19 0 [] Value.none Value.none Value.none Value.none none Value.none Value.none 0)) (List.toArray []))
noncomputable def o207 : Params → Obj := fun P => (Obj.mk Value.none none (Data.fields (List.toArray [])) (List.toArray []))
noncomputable def o210 : Params → Obj := fun P => (Obj.mk Value.none none (Data.func (FuncData.mk (Str.ofString "int_width") (Str.ofString "int_width") fA20 (.stmts fB20) fS20 0 [] Value.none Value.none Value.none Value.none none Value.none Value.none 0)) (List.toArray []))
noncomputable def o214 : Params → Obj := fun P => (Obj.mk Value.none none (Data.fields (List.toArray [])) (List.toArray []))
noncomputable def o217 : Params → Obj := fun P => (Obj.mk Value.none none (Data.func (FuncData.mk (Str.ofString "width_bits") (Str.ofString "width_bits") fA21 (.stmts fB21) fS21 0 [] Value.none Value.none Value.none Value.none none Value.none Value.none 0)) (List.toArray []))
noncomputable def o221 : Params → Obj := fun P => (Obj.mk Value.none none (Data.fields (List.toArray [])) (List.toArray []))
noncomputable def o224 : Params → Obj := fun P => (Obj.mk Value.none none (Data.func (FuncData.mk (Str.ofString "compress_int") (Str.ofString "compress_int") fA22 (.stmts fB22) fS22 0 [] Value.none Value.none Value.none Value.none none Value.none Value.none 0)) (List.toArray []))
noncomputable def o228 : Params → Obj := fun P => (Obj.mk Value.none none (Data.fields (List.toArray [])) (List.toArray []))
noncomputable def o231 : Params → Obj := fun P => (Obj.mk Value.none none (Data.func (FuncData.mk (Str.ofString "read_int") (Str.ofString "read_int") fA23 (.stmts fB23) fS23 0 [] Value.none Value.none Value.none Value.none none Value.none Value.none 0)) (List.toArray []))
noncomputable def o240 : Params → Obj := fun P => (Obj.mk Value.none none (Data.fields (List.toArray [])) (List.toArray []))
noncomputable def o241 : Params → Obj := fun P => (Obj.mk Value.none none (Data.func (FuncData.mk (Str.ofString "_law_digits") (Str.ofString "_law_digits") fA24 (.stmts fB24) fS24 0 [] Value.none Value.none Value.none Value.none none Value.none Value.none 0)) (List.toArray []))
noncomputable def o245 : Params → Obj := fun P => (Obj.mk Value.none none (Data.fields (List.toArray [])) (List.toArray []))
noncomputable def o248 : Params → Obj := fun P => (Obj.mk Value.none none (Data.func (FuncData.mk (Str.ofString "_law_number") (Str.ofString "_law_number") fA25 (.stmts fB25) fS25 0 [] Value.none Value.none Value.none Value.none none Value.none Value.none 0)) (List.toArray []))
noncomputable def o252 : Params → Obj := fun P => (Obj.mk Value.none none (Data.fields (List.toArray [])) (List.toArray []))
noncomputable def o255 : Params → Obj := fun P => (Obj.mk Value.none none (Data.func (FuncData.mk (Str.ofString "_law_value") (Str.ofString "_law_value") fA26 (.stmts fB26) fS26 0 [] Value.none Value.none Value.none Value.none none Value.none Value.none 0)) (List.toArray []))
noncomputable def o259 : Params → Obj := fun P => (Obj.mk Value.none none (Data.fields (List.toArray [])) (List.toArray []))
noncomputable def o260 : Params → Obj := fun P => (Obj.mk Value.none none (Data.func (FuncData.mk (Str.ofString "_law_octets") (Str.ofString "_law_octets") fA27 (.stmts fB27) fS27 0 [] Value.none Value.none Value.none Value.none none Value.none Value.none 0)) (List.toArray []))
noncomputable def o264 : Params → Obj := fun P => (Obj.mk Value.none none (Data.fields (List.toArray [])) (List.toArray []))
noncomputable def o265 : Params → Obj := fun P => (Obj.mk Value.none none (Data.func (FuncData.mk (Str.ofString "_law_look") (Str.ofString "_law_look") fA28 (.stmts fB28) fS28 0 [] Value.none Value.none Value.none Value.none none Value.none Value.none 0)) (List.toArray []))
noncomputable def o269 : Params → Obj := fun P => (Obj.mk Value.none none (Data.fields (List.toArray [])) (List.toArray []))
noncomputable def o272 : Params → Obj := fun P => (Obj.mk Value.none none (Data.func (FuncData.mk (Str.ofString "_law_taken") (Str.ofString "_law_taken") fA29 (.stmts fB29) fS29 0 [] Value.none Value.none Value.none Value.none none Value.none Value.none 0)) (List.toArray []))
noncomputable def o276 : Params → Obj := fun P => (Obj.mk Value.none none (Data.fields (List.toArray [])) (List.toArray []))
noncomputable def o279 : Params → Obj := fun P => (Obj.mk Value.none none (Data.func (FuncData.mk (Str.ofString "_law_wild") (Str.ofString "_law_wild") fA30 (.stmts fB30) fS30 0 [] Value.none Value.none Value.none Value.none none Value.none Value.none 0)) (List.toArray []))
noncomputable def o283 : Params → Obj := fun P => (Obj.mk Value.none none (Data.fields (List.toArray [])) (List.toArray []))
noncomputable def o284 : Params → Obj := fun P => (Obj.mk Value.none none (Data.func (FuncData.mk (Str.ofString "law") (Str.ofString "law") fA31 (.stmts fB31) fS31 0 [] Value.none Value.none Value.none Value.none none Value.none Value.none 0)) (List.toArray []))
noncomputable def H1 : Params → Heap := fun P => Heap.mk (Array.mk (PySem.W.boot_o_0 P :: PySem.W.boot_o_1 P :: oK P (nat_lit 2) :: oK P (nat_lit 3) :: PySem.W.boot_o_4 P :: PySem.W.boot_o_5 P :: PySem.W.boot_o_6 P :: PySem.W.boot_o_7 P :: PySem.W.boot_o_8 P :: PySem.W.boot_o_9 P :: PySem.W.boot_o_10 P :: o11 P :: o12 P :: o13 P :: o14 P :: oK P (nat_lit 15) :: o16 P :: oK P (nat_lit 17) :: oK P (nat_lit 18) :: o19 P :: oK P (nat_lit 20) :: oK P (nat_lit 21) :: oK P (nat_lit 22) :: o23 P :: o24 P :: o25 P :: o26 P :: o27 P :: o28 P :: oK P (nat_lit 29) :: o30 P :: oK P (nat_lit 31) :: oK P (nat_lit 32) :: o33 P :: oK P (nat_lit 34) :: oK P (nat_lit 35) :: oK P (nat_lit 36) :: oK P (nat_lit 37) :: oK P (nat_lit 38) :: oK P (nat_lit 39) :: o40 P :: o41 P :: oK P (nat_lit 42) :: o43 P :: o44 P :: o45 P :: o46 P :: o47 P :: o48 P :: oK P (nat_lit 49) :: oK P (nat_lit 50) :: oK P (nat_lit 51) :: o52 P :: o53 P :: oK P (nat_lit 54) :: o55 P :: o56 P :: o57 P :: o58 P :: o59 P :: o60 P :: oK P (nat_lit 61) :: oK P (nat_lit 62) :: oK P (nat_lit 63) :: o64 P :: o65 P :: oK P (nat_lit 66) :: o67 P :: oK P (nat_lit 68) :: oK P (nat_lit 69) :: o70 P :: oK P (nat_lit 71) :: oK P (nat_lit 72) :: o73 P :: o74 P :: o75 P :: o76 P :: o77 P :: o78 P :: o79 P :: oK P (nat_lit 80) :: o81 P :: oK P (nat_lit 82) :: oK P (nat_lit 83) :: o84 P :: oK P (nat_lit 85) :: oK P (nat_lit 86) :: oK P (nat_lit 87) :: o88 P :: oK P (nat_lit 89) :: oK P (nat_lit 90) :: o91 P :: oK P (nat_lit 92) :: oK P (nat_lit 93) :: oK P (nat_lit 94) :: o95 P :: oK P (nat_lit 96) :: oK P (nat_lit 97) :: o98 P :: oK P (nat_lit 99) :: oK P (nat_lit 100) :: oK P (nat_lit 101) :: o102 P :: oK P (nat_lit 103) :: oK P (nat_lit 104) :: o105 P :: oK P (nat_lit 106) :: oK P (nat_lit 107) :: oK P (nat_lit 108) :: o109 P :: oK P (nat_lit 110) :: oK P (nat_lit 111) :: o112 P :: oK P (nat_lit 113) :: oK P (nat_lit 114) :: oK P (nat_lit 115) :: o116 P :: oK P (nat_lit 117) :: oK P (nat_lit 118) :: o119 P :: oK P (nat_lit 120) :: oK P (nat_lit 121) :: oK P (nat_lit 122) :: o123 P :: oK P (nat_lit 124) :: oK P (nat_lit 125) :: o126 P :: oK P (nat_lit 127) :: oK P (nat_lit 128) :: oK P (nat_lit 129) :: o130 P :: oK P (nat_lit 131) :: oK P (nat_lit 132) :: o133 P :: oK P (nat_lit 134) :: oK P (nat_lit 135) :: oK P (nat_lit 136) :: o137 P :: oK P (nat_lit 138) :: oK P (nat_lit 139) :: o140 P :: oK P (nat_lit 141) :: oK P (nat_lit 142) :: oK P (nat_lit 143) :: o144 P :: oK P (nat_lit 145) :: oK P (nat_lit 146) :: o147 P :: oK P (nat_lit 148) :: oK P (nat_lit 149) :: oK P (nat_lit 150) :: o151 P :: oK P (nat_lit 152) :: oK P (nat_lit 153) :: o154 P :: oK P (nat_lit 155) :: oK P (nat_lit 156) :: oK P (nat_lit 157) :: oK P (nat_lit 158) :: oK P (nat_lit 159) :: oK P (nat_lit 160) :: oK P (nat_lit 161) :: o162 P :: o163 P :: oK P (nat_lit 164) :: o165 P :: oK P (nat_lit 166) :: oK P (nat_lit 167) :: o168 P :: oK P (nat_lit 169) :: oK P (nat_lit 170) :: oK P (nat_lit 171) :: o172 P :: oK P (nat_lit 173) :: oK P (nat_lit 174) :: o175 P :: oK P (nat_lit 176) :: oK P (nat_lit 177) :: oK P (nat_lit 178) :: o179 P :: oK P (nat_lit 180) :: oK P (nat_lit 181) :: o182 P :: oK P (nat_lit 183) :: oK P (nat_lit 184) :: oK P (nat_lit 185) :: o186 P :: oK P (nat_lit 187) :: oK P (nat_lit 188) :: o189 P :: oK P (nat_lit 190) :: oK P (nat_lit 191) :: oK P (nat_lit 192) :: o193 P :: oK P (nat_lit 194) :: oK P (nat_lit 195) :: o196 P :: oK P (nat_lit 197) :: oK P (nat_lit 198) :: oK P (nat_lit 199) :: o200 P :: oK P (nat_lit 201) :: oK P (nat_lit 202) :: o203 P :: oK P (nat_lit 204) :: oK P (nat_lit 205) :: oK P (nat_lit 206) :: o207 P :: oK P (nat_lit 208) :: oK P (nat_lit 209) :: o210 P :: oK P (nat_lit 211) :: oK P (nat_lit 212) :: oK P (nat_lit 213) :: o214 P :: oK P (nat_lit 215) :: oK P (nat_lit 216) :: o217 P :: oK P (nat_lit 218) :: oK P (nat_lit 219) :: oK P (nat_lit 220) :: o221 P :: oK P (nat_lit 222) :: oK P (nat_lit 223) :: o224 P :: oK P (nat_lit 225) :: oK P (nat_lit 226) :: oK P (nat_lit 227) :: o228 P :: oK P (nat_lit 229) :: oK P (nat_lit 230) :: o231 P :: oK P (nat_lit 232) :: oK P (nat_lit 233) :: oK P (nat_lit 234) :: oK P (nat_lit 235) :: oK P (nat_lit 236) :: oK P (nat_lit 237) :: oK P (nat_lit 238) :: oK P (nat_lit 239) :: o240 P :: o241 P :: oK P (nat_lit 242) :: oK P (nat_lit 243) :: oK P (nat_lit 244) :: o245 P :: oK P (nat_lit 246) :: oK P (nat_lit 247) :: o248 P :: oK P (nat_lit 249) :: oK P (nat_lit 250) :: oK P (nat_lit 251) :: o252 P :: oK P (nat_lit 253) :: oK P (nat_lit 254) :: o255 P :: oK P (nat_lit 256) :: oK P (nat_lit 257) :: oK P (nat_lit 258) :: o259 P :: o260 P :: oK P (nat_lit 261) :: oK P (nat_lit 262) :: oK P (nat_lit 263) :: o264 P :: o265 P :: oK P (nat_lit 266) :: oK P (nat_lit 267) :: oK P (nat_lit 268) :: o269 P :: oK P (nat_lit 270) :: oK P (nat_lit 271) :: o272 P :: oK P (nat_lit 273) :: oK P (nat_lit 274) :: oK P (nat_lit 275) :: o276 P :: oK P (nat_lit 277) :: oK P (nat_lit 278) :: o279 P :: oK P (nat_lit 280) :: oK P (nat_lit 281) :: oK P (nat_lit 282) :: o283 P :: o284 P :: oK P (nat_lit 285) :: oK P (nat_lit 286) :: [])) {}
noncomputable def view : Program := { PySem.Challenge.pw_sa0222_01 with main := { PySem.Challenge.pw_sa0222_01.main with body := PySem.Challenge.pw_sa0222_01.main.body.take 1 ++ ((PySem.Challenge.pw_sa0222_01.main.body.drop 2).take 3 ++ ((PySem.Challenge.pw_sa0222_01.main.body.drop 6).take 12 ++ PySem.Challenge.pw_sa0222_01.main.body.drop 19)) } }
noncomputable def keysK : List Addr := 2 :: 3 :: 15 :: 17 :: 18 :: 20 :: 21 :: 22 :: 29 :: 31 :: 32 :: 34 :: 35 :: 36 :: 37 :: 38 :: 39 :: 42 :: 49 :: 50 :: 51 :: 54 :: 61 :: 62 :: 63 :: 66 :: 68 :: 69 :: 71 :: 72 :: 80 :: 82 :: 83 :: 85 :: 86 :: 87 :: 89 :: 90 :: 92 :: 93 :: 94 :: 96 :: 97 :: 99 :: 100 :: 101 :: 103 :: 104 :: 106 :: 107 :: 108 :: 110 :: 111 :: 113 :: 114 :: 115 :: 117 :: 118 :: 120 :: 121 :: 122 :: 124 :: 125 :: 127 :: 128 :: 129 :: 131 :: 132 :: 134 :: 135 :: 136 :: 138 :: 139 :: 141 :: 142 :: 143 :: 145 :: 146 :: 148 :: 149 :: 150 :: 152 :: 153 :: 155 :: 156 :: 157 :: 158 :: 159 :: 160 :: 161 :: 164 :: 166 :: 167 :: 169 :: 170 :: 171 :: 173 :: 174 :: 176 :: 177 :: 178 :: 180 :: 181 :: 183 :: 184 :: 185 :: 187 :: 188 :: 190 :: 191 :: 192 :: 194 :: 195 :: 197 :: 198 :: 199 :: 201 :: 202 :: 204 :: 205 :: 206 :: 208 :: 209 :: 211 :: 212 :: 213 :: 215 :: 216 :: 218 :: 219 :: 220 :: 222 :: 223 :: 225 :: 226 :: 227 :: 229 :: 230 :: 232 :: 233 :: 234 :: 235 :: 236 :: 237 :: 238 :: 239 :: 242 :: 243 :: 244 :: 246 :: 247 :: 249 :: 250 :: 251 :: 253 :: 254 :: 256 :: 257 :: 258 :: 261 :: 262 :: 263 :: 266 :: 267 :: 268 :: 270 :: 271 :: 273 :: 274 :: 275 :: 277 :: 278 :: 280 :: 281 :: 282 :: 285 :: 286 :: []
theorem keysK_ok (P : Params) : keysK = (K P).map (·.1) := by kernel_rfl
noncomputable abbrev pwR : Program := PySem.Challenge.rw_sa0222_01.row.toRowW.1
theorem top_open : opening pwR = plainProg pwR.main.scope.names := by kernel_rfl
theorem top_fence (s : Shared) : fenceModules? pwR s = some s := by kernel_rfl
theorem top_size (w : World) : ((boot_heap w.params).isNs mainGlobals && (Array.mk [] : Array GenState).size == 0, (boot_heap w.params).objs.size, (boot_heap w.params).nsMap mainGlobals "__annotations__") = (true, 11, some (Value.ref 6)) := by kernel_rfl
noncomputable def d0_12 : Params → Obj := fun P => (Obj.mk Value.none none (Data.fields (List.toArray [])) (List.toArray []))
noncomputable def C0 : Params → Heap := fun P => Heap.mk (Array.mk (PySem.W.boot_o_0 P :: PySem.W.boot_o_1 P :: PySem.W.boot_o_2 P :: PySem.W.boot_o_3 P :: PySem.W.boot_o_4 P :: PySem.W.boot_o_5 P :: PySem.W.boot_o_6 P :: PySem.W.boot_o_7 P :: PySem.W.boot_o_8 P :: PySem.W.boot_o_9 P :: PySem.W.boot_o_10 P :: o11 P :: d0_12 P :: o13 P :: o14 P :: [])) {}
noncomputable def d2_3 : Params → Obj := fun P => (Obj.mk (Value.type "dict") none (Data.dict (List.toArray [(DictEntry.mk (PyData.keyHash P (Str.ofString "__name__")) (Value.str (Str.ofString "__name__") 165) (Value.str (Str.ofString "framerune.faults") 194)), (DictEntry.mk (PyData.keyHash P (Str.ofString "__doc__")) (Value.str (Str.ofString "__doc__") 166) Value.none), (DictEntry.mk (PyData.keyHash P (Str.ofString "__package__")) (Value.str (Str.ofString "__package__") 167) Value.none), (DictEntry.mk (PyData.keyHash P (Str.ofString "__loader__")) (Value.str (Str.ofString "__loader__") 168) (Value.builtin "__main__.__loader__#opaque")), (DictEntry.mk (PyData.keyHash P (Str.ofString "__spec__")) (Value.str (Str.ofString "__spec__") 169) Value.none), (DictEntry.mk (PyData.keyHash P (Str.ofString "__annotations__")) (Value.str (Str.ofString "__annotations__") 170) (Value.ref 6)), (DictEntry.mk (PyData.keyHash P (Str.ofString "__builtins__")) (Value.str (Str.ofString "__builtins__") 171) (Value.ref 4)), (DictEntry.mk (PyData.keyHash P (Str.ofString "__file__")) (Value.str (Str.ofString "__file__") 173) (Value.str (Str.ofString "/claim/cut.py") 172)), (DictEntry.mk (PyData.keyHash P (Str.ofString "__cached__")) (Value.str (Str.ofString "__cached__") 174) Value.none), (DictEntry.mk (PyData.keyHash P (Str.ofString "_wall")) (Value.str (Str.ofString "_wall") 193) (Value.ref 21)), (DictEntry.mk (PyData.keyHash P (Str.ofString "RuneError")) (Value.str (Str.ofString "RuneError") 226) (Value.ref 38))]) 11) (List.toArray []))
noncomputable def d2_12 : Params → Obj := fun P => (Obj.mk Value.none none (Data.fields (List.toArray [(Value.int 1 0), (Value.int 0 0), (Value.ref 20), (Value.int 5 0), (Value.int 0 0), (Value.ref 27)])) (List.toArray []))
noncomputable def d2_38 : Params → Obj := fun P => (Obj.mk (Value.type "type") none (Data.cls (ClassData.mk (Str.ofString "RuneError") [(Value.type "Exception")] [(Value.ref 38), (Value.type "Exception"), (Value.type "BaseException"), (Value.type "object")] 37 (Str.ofString "RuneError") Bool.true [] [] Bool.false none Bool.false)) (List.toArray [(some (Value.ref 22)), none, (some (Value.str (Str.ofString "RuneError") 196)), (some (Value.str (Str.ofString "RuneError") 204)), (some (Value.builtin "Exception.__new__")), (some (Value.bool Bool.true))]))
noncomputable def C2 : Params → Heap := fun P => Heap.mk (Array.mk (PySem.W.boot_o_0 P :: PySem.W.boot_o_1 P :: oK P (nat_lit 2) :: d2_3 P :: PySem.W.boot_o_4 P :: PySem.W.boot_o_5 P :: PySem.W.boot_o_6 P :: PySem.W.boot_o_7 P :: PySem.W.boot_o_8 P :: PySem.W.boot_o_9 P :: PySem.W.boot_o_10 P :: o11 P :: d2_12 P :: o13 P :: o14 P :: oK P (nat_lit 15) :: o16 P :: oK P (nat_lit 17) :: oK P (nat_lit 18) :: o19 P :: oK P (nat_lit 20) :: oK P (nat_lit 21) :: oK P (nat_lit 22) :: o23 P :: o24 P :: o25 P :: o26 P :: o27 P :: o28 P :: oK P (nat_lit 29) :: o30 P :: oK P (nat_lit 31) :: oK P (nat_lit 32) :: o33 P :: oK P (nat_lit 34) :: oK P (nat_lit 35) :: oK P (nat_lit 36) :: oK P (nat_lit 37) :: d2_38 P :: oK P (nat_lit 39) :: o40 P :: o41 P :: [])) {}
noncomputable def d3_3 : Params → Obj := fun P => (Obj.mk (Value.type "dict") none (Data.dict (List.toArray [(DictEntry.mk (PyData.keyHash P (Str.ofString "__name__")) (Value.str (Str.ofString "__name__") 165) (Value.str (Str.ofString "framerune.faults") 194)), (DictEntry.mk (PyData.keyHash P (Str.ofString "__doc__")) (Value.str (Str.ofString "__doc__") 166) Value.none), (DictEntry.mk (PyData.keyHash P (Str.ofString "__package__")) (Value.str (Str.ofString "__package__") 167) Value.none), (DictEntry.mk (PyData.keyHash P (Str.ofString "__loader__")) (Value.str (Str.ofString "__loader__") 168) (Value.builtin "__main__.__loader__#opaque")), (DictEntry.mk (PyData.keyHash P (Str.ofString "__spec__")) (Value.str (Str.ofString "__spec__") 169) Value.none), (DictEntry.mk (PyData.keyHash P (Str.ofString "__annotations__")) (Value.str (Str.ofString "__annotations__") 170) (Value.ref 6)), (DictEntry.mk (PyData.keyHash P (Str.ofString "__builtins__")) (Value.str (Str.ofString "__builtins__") 171) (Value.ref 4)), (DictEntry.mk (PyData.keyHash P (Str.ofString "__file__")) (Value.str (Str.ofString "__file__") 173) (Value.str (Str.ofString "/claim/cut.py") 172)), (DictEntry.mk (PyData.keyHash P (Str.ofString "__cached__")) (Value.str (Str.ofString "__cached__") 174) Value.none), (DictEntry.mk (PyData.keyHash P (Str.ofString "_wall")) (Value.str (Str.ofString "_wall") 193) (Value.ref 21)), (DictEntry.mk (PyData.keyHash P (Str.ofString "RuneError")) (Value.str (Str.ofString "RuneError") 226) (Value.ref 38)), (DictEntry.mk (PyData.keyHash P (Str.ofString "BadImage")) (Value.str (Str.ofString "BadImage") 242) (Value.ref 51))]) 12) (List.toArray []))
noncomputable def d3_12 : Params → Obj := fun P => (Obj.mk Value.none none (Data.fields (List.toArray [(Value.int 1 0), (Value.int 0 0), (Value.ref 20), (Value.int 5 0), (Value.int 0 0), (Value.ref 27), (Value.int 10 0), (Value.int 0 0), (Value.ref 47)])) (List.toArray []))
noncomputable def d3_38 : Params → Obj := fun P => (Obj.mk (Value.type "type") none (Data.cls (ClassData.mk (Str.ofString "RuneError") [(Value.type "Exception")] [(Value.ref 38), (Value.type "Exception"), (Value.type "BaseException"), (Value.type "object")] 37 (Str.ofString "RuneError") Bool.true [] [(Value.ref 51)] Bool.false none Bool.false)) (List.toArray [(some (Value.ref 22)), none, (some (Value.str (Str.ofString "RuneError") 196)), (some (Value.str (Str.ofString "RuneError") 204)), (some (Value.builtin "Exception.__new__")), (some (Value.bool Bool.true))]))
noncomputable def C3 : Params → Heap := fun P => Heap.mk (Array.mk (PySem.W.boot_o_0 P :: PySem.W.boot_o_1 P :: oK P (nat_lit 2) :: d3_3 P :: PySem.W.boot_o_4 P :: PySem.W.boot_o_5 P :: PySem.W.boot_o_6 P :: PySem.W.boot_o_7 P :: PySem.W.boot_o_8 P :: PySem.W.boot_o_9 P :: PySem.W.boot_o_10 P :: o11 P :: d3_12 P :: o13 P :: o14 P :: oK P (nat_lit 15) :: o16 P :: oK P (nat_lit 17) :: oK P (nat_lit 18) :: o19 P :: oK P (nat_lit 20) :: oK P (nat_lit 21) :: oK P (nat_lit 22) :: o23 P :: o24 P :: o25 P :: o26 P :: o27 P :: o28 P :: oK P (nat_lit 29) :: o30 P :: oK P (nat_lit 31) :: oK P (nat_lit 32) :: o33 P :: oK P (nat_lit 34) :: oK P (nat_lit 35) :: oK P (nat_lit 36) :: oK P (nat_lit 37) :: d3_38 P :: oK P (nat_lit 39) :: o40 P :: o41 P :: oK P (nat_lit 42) :: o43 P :: o44 P :: o45 P :: o46 P :: o47 P :: o48 P :: oK P (nat_lit 49) :: oK P (nat_lit 50) :: oK P (nat_lit 51) :: o52 P :: o53 P :: [])) {}
noncomputable def d4_3 : Params → Obj := fun P => (Obj.mk (Value.type "dict") none (Data.dict (List.toArray [(DictEntry.mk (PyData.keyHash P (Str.ofString "__name__")) (Value.str (Str.ofString "__name__") 165) (Value.str (Str.ofString "framerune.octets") 259)), (DictEntry.mk (PyData.keyHash P (Str.ofString "__doc__")) (Value.str (Str.ofString "__doc__") 166) Value.none), (DictEntry.mk (PyData.keyHash P (Str.ofString "__package__")) (Value.str (Str.ofString "__package__") 167) Value.none), (DictEntry.mk (PyData.keyHash P (Str.ofString "__loader__")) (Value.str (Str.ofString "__loader__") 168) (Value.builtin "__main__.__loader__#opaque")), (DictEntry.mk (PyData.keyHash P (Str.ofString "__spec__")) (Value.str (Str.ofString "__spec__") 169) Value.none), (DictEntry.mk (PyData.keyHash P (Str.ofString "__annotations__")) (Value.str (Str.ofString "__annotations__") 170) (Value.ref 6)), (DictEntry.mk (PyData.keyHash P (Str.ofString "__builtins__")) (Value.str (Str.ofString "__builtins__") 171) (Value.ref 4)), (DictEntry.mk (PyData.keyHash P (Str.ofString "__file__")) (Value.str (Str.ofString "__file__") 173) (Value.str (Str.ofString "/claim/cut.py") 172)), (DictEntry.mk (PyData.keyHash P (Str.ofString "__cached__")) (Value.str (Str.ofString "__cached__") 174) Value.none), (DictEntry.mk (PyData.keyHash P (Str.ofString "_wall")) (Value.str (Str.ofString "_wall") 193) (Value.ref 21)), (DictEntry.mk (PyData.keyHash P (Str.ofString "RuneError")) (Value.str (Str.ofString "RuneError") 226) (Value.ref 38)), (DictEntry.mk (PyData.keyHash P (Str.ofString "BadImage")) (Value.str (Str.ofString "BadImage") 242) (Value.ref 51)), (DictEntry.mk (PyData.keyHash P (Str.ofString "BadSig")) (Value.str (Str.ofString "BadSig") 258) (Value.ref 63)), (DictEntry.mk (PyData.keyHash P (Str.ofString "take_number")) (Value.str (Str.ofString "take_number") 270) (Value.ref 72))]) 14) (List.toArray []))
noncomputable def d4_12 : Params → Obj := fun P => (Obj.mk Value.none none (Data.fields (List.toArray [(Value.int 1 0), (Value.int 0 0), (Value.ref 20), (Value.int 5 0), (Value.int 0 0), (Value.ref 27), (Value.int 10 0), (Value.int 0 0), (Value.ref 47), (Value.int 12 0), (Value.int 0 0), (Value.ref 59), (Value.int 15 0), (Value.int 0 0), (Value.ref 71)])) (List.toArray []))
noncomputable def C4 : Params → Heap := fun P => Heap.mk (Array.mk (PySem.W.boot_o_0 P :: PySem.W.boot_o_1 P :: oK P (nat_lit 2) :: d4_3 P :: PySem.W.boot_o_4 P :: PySem.W.boot_o_5 P :: PySem.W.boot_o_6 P :: PySem.W.boot_o_7 P :: PySem.W.boot_o_8 P :: PySem.W.boot_o_9 P :: PySem.W.boot_o_10 P :: o11 P :: d4_12 P :: o13 P :: o14 P :: oK P (nat_lit 15) :: o16 P :: oK P (nat_lit 17) :: oK P (nat_lit 18) :: o19 P :: oK P (nat_lit 20) :: oK P (nat_lit 21) :: oK P (nat_lit 22) :: o23 P :: o24 P :: o25 P :: o26 P :: o27 P :: o28 P :: oK P (nat_lit 29) :: o30 P :: oK P (nat_lit 31) :: oK P (nat_lit 32) :: o33 P :: oK P (nat_lit 34) :: oK P (nat_lit 35) :: oK P (nat_lit 36) :: oK P (nat_lit 37) :: oK P (nat_lit 38) :: oK P (nat_lit 39) :: o40 P :: o41 P :: oK P (nat_lit 42) :: o43 P :: o44 P :: o45 P :: o46 P :: o47 P :: o48 P :: oK P (nat_lit 49) :: oK P (nat_lit 50) :: oK P (nat_lit 51) :: o52 P :: o53 P :: oK P (nat_lit 54) :: o55 P :: o56 P :: o57 P :: o58 P :: o59 P :: o60 P :: oK P (nat_lit 61) :: oK P (nat_lit 62) :: oK P (nat_lit 63) :: o64 P :: o65 P :: oK P (nat_lit 66) :: o67 P :: oK P (nat_lit 68) :: oK P (nat_lit 69) :: o70 P :: oK P (nat_lit 71) :: oK P (nat_lit 72) :: [])) {}
noncomputable def d5_3 : Params → Obj := fun P => (Obj.mk (Value.type "dict") none (Data.dict (List.toArray [(DictEntry.mk (PyData.keyHash P (Str.ofString "__name__")) (Value.str (Str.ofString "__name__") 165) (Value.str (Str.ofString "framerune.octets") 259)), (DictEntry.mk (PyData.keyHash P (Str.ofString "__doc__")) (Value.str (Str.ofString "__doc__") 166) Value.none), (DictEntry.mk (PyData.keyHash P (Str.ofString "__package__")) (Value.str (Str.ofString "__package__") 167) Value.none), (DictEntry.mk (PyData.keyHash P (Str.ofString "__loader__")) (Value.str (Str.ofString "__loader__") 168) (Value.builtin "__main__.__loader__#opaque")), (DictEntry.mk (PyData.keyHash P (Str.ofString "__spec__")) (Value.str (Str.ofString "__spec__") 169) Value.none), (DictEntry.mk (PyData.keyHash P (Str.ofString "__annotations__")) (Value.str (Str.ofString "__annotations__") 170) (Value.ref 6)), (DictEntry.mk (PyData.keyHash P (Str.ofString "__builtins__")) (Value.str (Str.ofString "__builtins__") 171) (Value.ref 4)), (DictEntry.mk (PyData.keyHash P (Str.ofString "__file__")) (Value.str (Str.ofString "__file__") 173) (Value.str (Str.ofString "/claim/cut.py") 172)), (DictEntry.mk (PyData.keyHash P (Str.ofString "__cached__")) (Value.str (Str.ofString "__cached__") 174) Value.none), (DictEntry.mk (PyData.keyHash P (Str.ofString "_wall")) (Value.str (Str.ofString "_wall") 193) (Value.ref 21)), (DictEntry.mk (PyData.keyHash P (Str.ofString "RuneError")) (Value.str (Str.ofString "RuneError") 226) (Value.ref 38)), (DictEntry.mk (PyData.keyHash P (Str.ofString "BadImage")) (Value.str (Str.ofString "BadImage") 242) (Value.ref 51)), (DictEntry.mk (PyData.keyHash P (Str.ofString "BadSig")) (Value.str (Str.ofString "BadSig") 258) (Value.ref 63)), (DictEntry.mk (PyData.keyHash P (Str.ofString "take_number")) (Value.str (Str.ofString "take_number") 270) (Value.ref 72)), (DictEntry.mk (PyData.keyHash P (Str.ofString "In")) (Value.str (Str.ofString "In") 372) (Value.ref 159))]) 15) (List.toArray []))
noncomputable def d5_12 : Params → Obj := fun P => (Obj.mk Value.none none (Data.fields (List.toArray [(Value.int 1 0), (Value.int 0 0), (Value.ref 20), (Value.int 5 0), (Value.int 0 0), (Value.ref 27), (Value.int 10 0), (Value.int 0 0), (Value.ref 47), (Value.int 12 0), (Value.int 0 0), (Value.ref 59), (Value.int 15 0), (Value.int 0 0), (Value.ref 71), (Value.int 23 0), (Value.int 0 0), (Value.ref 78)])) (List.toArray []))
noncomputable def C5 : Params → Heap := fun P => Heap.mk (Array.mk (PySem.W.boot_o_0 P :: PySem.W.boot_o_1 P :: oK P (nat_lit 2) :: d5_3 P :: PySem.W.boot_o_4 P :: PySem.W.boot_o_5 P :: PySem.W.boot_o_6 P :: PySem.W.boot_o_7 P :: PySem.W.boot_o_8 P :: PySem.W.boot_o_9 P :: PySem.W.boot_o_10 P :: o11 P :: d5_12 P :: o13 P :: o14 P :: oK P (nat_lit 15) :: o16 P :: oK P (nat_lit 17) :: oK P (nat_lit 18) :: o19 P :: oK P (nat_lit 20) :: oK P (nat_lit 21) :: oK P (nat_lit 22) :: o23 P :: o24 P :: o25 P :: o26 P :: o27 P :: o28 P :: oK P (nat_lit 29) :: o30 P :: oK P (nat_lit 31) :: oK P (nat_lit 32) :: o33 P :: oK P (nat_lit 34) :: oK P (nat_lit 35) :: oK P (nat_lit 36) :: oK P (nat_lit 37) :: oK P (nat_lit 38) :: oK P (nat_lit 39) :: o40 P :: o41 P :: oK P (nat_lit 42) :: o43 P :: o44 P :: o45 P :: o46 P :: o47 P :: o48 P :: oK P (nat_lit 49) :: oK P (nat_lit 50) :: oK P (nat_lit 51) :: o52 P :: o53 P :: oK P (nat_lit 54) :: o55 P :: o56 P :: o57 P :: o58 P :: o59 P :: o60 P :: oK P (nat_lit 61) :: oK P (nat_lit 62) :: oK P (nat_lit 63) :: o64 P :: o65 P :: oK P (nat_lit 66) :: o67 P :: oK P (nat_lit 68) :: oK P (nat_lit 69) :: o70 P :: oK P (nat_lit 71) :: oK P (nat_lit 72) :: o73 P :: o74 P :: o75 P :: o76 P :: o77 P :: o78 P :: o79 P :: oK P (nat_lit 80) :: o81 P :: oK P (nat_lit 82) :: oK P (nat_lit 83) :: o84 P :: oK P (nat_lit 85) :: oK P (nat_lit 86) :: oK P (nat_lit 87) :: o88 P :: oK P (nat_lit 89) :: oK P (nat_lit 90) :: o91 P :: oK P (nat_lit 92) :: oK P (nat_lit 93) :: oK P (nat_lit 94) :: o95 P :: oK P (nat_lit 96) :: oK P (nat_lit 97) :: o98 P :: oK P (nat_lit 99) :: oK P (nat_lit 100) :: oK P (nat_lit 101) :: o102 P :: oK P (nat_lit 103) :: oK P (nat_lit 104) :: o105 P :: oK P (nat_lit 106) :: oK P (nat_lit 107) :: oK P (nat_lit 108) :: o109 P :: oK P (nat_lit 110) :: oK P (nat_lit 111) :: o112 P :: oK P (nat_lit 113) :: oK P (nat_lit 114) :: oK P (nat_lit 115) :: o116 P :: oK P (nat_lit 117) :: oK P (nat_lit 118) :: o119 P :: oK P (nat_lit 120) :: oK P (nat_lit 121) :: oK P (nat_lit 122) :: o123 P :: oK P (nat_lit 124) :: oK P (nat_lit 125) :: o126 P :: oK P (nat_lit 127) :: oK P (nat_lit 128) :: oK P (nat_lit 129) :: o130 P :: oK P (nat_lit 131) :: oK P (nat_lit 132) :: o133 P :: oK P (nat_lit 134) :: oK P (nat_lit 135) :: oK P (nat_lit 136) :: o137 P :: oK P (nat_lit 138) :: oK P (nat_lit 139) :: o140 P :: oK P (nat_lit 141) :: oK P (nat_lit 142) :: oK P (nat_lit 143) :: o144 P :: oK P (nat_lit 145) :: oK P (nat_lit 146) :: o147 P :: oK P (nat_lit 148) :: oK P (nat_lit 149) :: oK P (nat_lit 150) :: o151 P :: oK P (nat_lit 152) :: oK P (nat_lit 153) :: o154 P :: oK P (nat_lit 155) :: oK P (nat_lit 156) :: oK P (nat_lit 157) :: oK P (nat_lit 158) :: oK P (nat_lit 159) :: oK P (nat_lit 160) :: oK P (nat_lit 161) :: o162 P :: o163 P :: [])) {}
noncomputable def d6_3 : Params → Obj := fun P => (Obj.mk (Value.type "dict") none (Data.dict (List.toArray [(DictEntry.mk (PyData.keyHash P (Str.ofString "__name__")) (Value.str (Str.ofString "__name__") 165) (Value.str (Str.ofString "law_sa0222_01") 455)), (DictEntry.mk (PyData.keyHash P (Str.ofString "__doc__")) (Value.str (Str.ofString "__doc__") 166) Value.none), (DictEntry.mk (PyData.keyHash P (Str.ofString "__package__")) (Value.str (Str.ofString "__package__") 167) Value.none), (DictEntry.mk (PyData.keyHash P (Str.ofString "__loader__")) (Value.str (Str.ofString "__loader__") 168) (Value.builtin "__main__.__loader__#opaque")), (DictEntry.mk (PyData.keyHash P (Str.ofString "__spec__")) (Value.str (Str.ofString "__spec__") 169) Value.none), (DictEntry.mk (PyData.keyHash P (Str.ofString "__annotations__")) (Value.str (Str.ofString "__annotations__") 170) (Value.ref 6)), (DictEntry.mk (PyData.keyHash P (Str.ofString "__builtins__")) (Value.str (Str.ofString "__builtins__") 171) (Value.ref 4)), (DictEntry.mk (PyData.keyHash P (Str.ofString "__file__")) (Value.str (Str.ofString "__file__") 173) (Value.str (Str.ofString "/claim/cut.py") 172)), (DictEntry.mk (PyData.keyHash P (Str.ofString "__cached__")) (Value.str (Str.ofString "__cached__") 174) Value.none), (DictEntry.mk (PyData.keyHash P (Str.ofString "_wall")) (Value.str (Str.ofString "_wall") 193) (Value.ref 21)), (DictEntry.mk (PyData.keyHash P (Str.ofString "RuneError")) (Value.str (Str.ofString "RuneError") 226) (Value.ref 38)), (DictEntry.mk (PyData.keyHash P (Str.ofString "BadImage")) (Value.str (Str.ofString "BadImage") 242) (Value.ref 51)), (DictEntry.mk (PyData.keyHash P (Str.ofString "BadSig")) (Value.str (Str.ofString "BadSig") 258) (Value.ref 63)), (DictEntry.mk (PyData.keyHash P (Str.ofString "take_number")) (Value.str (Str.ofString "take_number") 270) (Value.ref 72)), (DictEntry.mk (PyData.keyHash P (Str.ofString "In")) (Value.str (Str.ofString "In") 372) (Value.ref 159)), (DictEntry.mk (PyData.keyHash P (Str.ofString "spread_wide")) (Value.str (Str.ofString "spread_wide") 380) (Value.ref 170)), (DictEntry.mk (PyData.keyHash P (Str.ofString "uint_width")) (Value.str (Str.ofString "uint_width") 387) (Value.ref 177)), (DictEntry.mk (PyData.keyHash P (Str.ofString "compress_uint")) (Value.str (Str.ofString "compress_uint") 394) (Value.ref 184)), (DictEntry.mk (PyData.keyHash P (Str.ofString "take_wide")) (Value.str (Str.ofString "take_wide") 405) (Value.ref 191)), (DictEntry.mk (PyData.keyHash P (Str.ofString "read_uint")) (Value.str (Str.ofString "read_uint") 412) (Value.ref 198)), (DictEntry.mk (PyData.keyHash P (Str.ofString "read_uint_strict")) (Value.str (Str.ofString "read_uint_strict") 421) (Value.ref 205)), (DictEntry.mk (PyData.keyHash P (Str.ofString "int_width")) (Value.str (Str.ofString "int_width") 428) (Value.ref 212)), (DictEntry.mk (PyData.keyHash P (Str.ofString "width_bits")) (Value.str (Str.ofString "width_bits") 435) (Value.ref 219)), (DictEntry.mk (PyData.keyHash P (Str.ofString "compress_int")) (Value.str (Str.ofString "compress_int") 445) (Value.ref 226)), (DictEntry.mk (PyData.keyHash P (Str.ofString "read_int")) (Value.str (Str.ofString "read_int") 454) (Value.ref 233)), (DictEntry.mk (PyData.keyHash P (Str.ofString "_law_EDGES")) (Value.str (Str.ofString "_law_EDGES") 464) (Value.ref 234)), (DictEntry.mk (PyData.keyHash P (Str.ofString "_law_FORMS")) (Value.str (Str.ofString "_law_FORMS") 471) (Value.ref 238)), (DictEntry.mk (PyData.keyHash P (Str.ofString "_law_digits")) (Value.str (Str.ofString "_law_digits") 477) (Value.ref 243))]) 28) (List.toArray []))
noncomputable def d6_12 : Params → Obj := fun P => (Obj.mk Value.none none (Data.fields (List.toArray [(Value.int 1 0), (Value.int 0 0), (Value.ref 20), (Value.int 5 0), (Value.int 0 0), (Value.ref 27), (Value.int 10 0), (Value.int 0 0), (Value.ref 47), (Value.int 12 0), (Value.int 0 0), (Value.ref 59), (Value.int 15 0), (Value.int 0 0), (Value.ref 71), (Value.int 23 0), (Value.int 0 0), (Value.ref 78), (Value.int 59 0), (Value.int 0 0), (Value.ref 169), (Value.int 65 0), (Value.int 0 0), (Value.ref 176), (Value.int 73 0), (Value.int 0 0), (Value.ref 183), (Value.int 75 0), (Value.int 0 0), (Value.ref 190), (Value.int 88 0), (Value.int 0 0), (Value.ref 197), (Value.int 90 0), (Value.int 0 0), (Value.ref 204), (Value.int 96 0), (Value.int 0 0), (Value.ref 211), (Value.int 104 0), (Value.int 0 0), (Value.ref 218), (Value.int 110 0), (Value.int 0 0), (Value.ref 225), (Value.int 117 0), (Value.int 0 0), (Value.ref 232), (Value.int 126 0), (Value.int 0 0), (Value.ref 242)])) (List.toArray []))
noncomputable def C6 : Params → Heap := fun P => Heap.mk (Array.mk (PySem.W.boot_o_0 P :: PySem.W.boot_o_1 P :: oK P (nat_lit 2) :: d6_3 P :: PySem.W.boot_o_4 P :: PySem.W.boot_o_5 P :: PySem.W.boot_o_6 P :: PySem.W.boot_o_7 P :: PySem.W.boot_o_8 P :: PySem.W.boot_o_9 P :: PySem.W.boot_o_10 P :: o11 P :: d6_12 P :: o13 P :: o14 P :: oK P (nat_lit 15) :: o16 P :: oK P (nat_lit 17) :: oK P (nat_lit 18) :: o19 P :: oK P (nat_lit 20) :: oK P (nat_lit 21) :: oK P (nat_lit 22) :: o23 P :: o24 P :: o25 P :: o26 P :: o27 P :: o28 P :: oK P (nat_lit 29) :: o30 P :: oK P (nat_lit 31) :: oK P (nat_lit 32) :: o33 P :: oK P (nat_lit 34) :: oK P (nat_lit 35) :: oK P (nat_lit 36) :: oK P (nat_lit 37) :: oK P (nat_lit 38) :: oK P (nat_lit 39) :: o40 P :: o41 P :: oK P (nat_lit 42) :: o43 P :: o44 P :: o45 P :: o46 P :: o47 P :: o48 P :: oK P (nat_lit 49) :: oK P (nat_lit 50) :: oK P (nat_lit 51) :: o52 P :: o53 P :: oK P (nat_lit 54) :: o55 P :: o56 P :: o57 P :: o58 P :: o59 P :: o60 P :: oK P (nat_lit 61) :: oK P (nat_lit 62) :: oK P (nat_lit 63) :: o64 P :: o65 P :: oK P (nat_lit 66) :: o67 P :: oK P (nat_lit 68) :: oK P (nat_lit 69) :: o70 P :: oK P (nat_lit 71) :: oK P (nat_lit 72) :: o73 P :: o74 P :: o75 P :: o76 P :: o77 P :: o78 P :: o79 P :: oK P (nat_lit 80) :: o81 P :: oK P (nat_lit 82) :: oK P (nat_lit 83) :: o84 P :: oK P (nat_lit 85) :: oK P (nat_lit 86) :: oK P (nat_lit 87) :: o88 P :: oK P (nat_lit 89) :: oK P (nat_lit 90) :: o91 P :: oK P (nat_lit 92) :: oK P (nat_lit 93) :: oK P (nat_lit 94) :: o95 P :: oK P (nat_lit 96) :: oK P (nat_lit 97) :: o98 P :: oK P (nat_lit 99) :: oK P (nat_lit 100) :: oK P (nat_lit 101) :: o102 P :: oK P (nat_lit 103) :: oK P (nat_lit 104) :: o105 P :: oK P (nat_lit 106) :: oK P (nat_lit 107) :: oK P (nat_lit 108) :: o109 P :: oK P (nat_lit 110) :: oK P (nat_lit 111) :: o112 P :: oK P (nat_lit 113) :: oK P (nat_lit 114) :: oK P (nat_lit 115) :: o116 P :: oK P (nat_lit 117) :: oK P (nat_lit 118) :: o119 P :: oK P (nat_lit 120) :: oK P (nat_lit 121) :: oK P (nat_lit 122) :: o123 P :: oK P (nat_lit 124) :: oK P (nat_lit 125) :: o126 P :: oK P (nat_lit 127) :: oK P (nat_lit 128) :: oK P (nat_lit 129) :: o130 P :: oK P (nat_lit 131) :: oK P (nat_lit 132) :: o133 P :: oK P (nat_lit 134) :: oK P (nat_lit 135) :: oK P (nat_lit 136) :: o137 P :: oK P (nat_lit 138) :: oK P (nat_lit 139) :: o140 P :: oK P (nat_lit 141) :: oK P (nat_lit 142) :: oK P (nat_lit 143) :: o144 P :: oK P (nat_lit 145) :: oK P (nat_lit 146) :: o147 P :: oK P (nat_lit 148) :: oK P (nat_lit 149) :: oK P (nat_lit 150) :: o151 P :: oK P (nat_lit 152) :: oK P (nat_lit 153) :: o154 P :: oK P (nat_lit 155) :: oK P (nat_lit 156) :: oK P (nat_lit 157) :: oK P (nat_lit 158) :: oK P (nat_lit 159) :: oK P (nat_lit 160) :: oK P (nat_lit 161) :: o162 P :: o163 P :: oK P (nat_lit 164) :: o165 P :: oK P (nat_lit 166) :: oK P (nat_lit 167) :: o168 P :: oK P (nat_lit 169) :: oK P (nat_lit 170) :: oK P (nat_lit 171) :: o172 P :: oK P (nat_lit 173) :: oK P (nat_lit 174) :: o175 P :: oK P (nat_lit 176) :: oK P (nat_lit 177) :: oK P (nat_lit 178) :: o179 P :: oK P (nat_lit 180) :: oK P (nat_lit 181) :: o182 P :: oK P (nat_lit 183) :: oK P (nat_lit 184) :: oK P (nat_lit 185) :: o186 P :: oK P (nat_lit 187) :: oK P (nat_lit 188) :: o189 P :: oK P (nat_lit 190) :: oK P (nat_lit 191) :: oK P (nat_lit 192) :: o193 P :: oK P (nat_lit 194) :: oK P (nat_lit 195) :: o196 P :: oK P (nat_lit 197) :: oK P (nat_lit 198) :: oK P (nat_lit 199) :: o200 P :: oK P (nat_lit 201) :: oK P (nat_lit 202) :: o203 P :: oK P (nat_lit 204) :: oK P (nat_lit 205) :: oK P (nat_lit 206) :: o207 P :: oK P (nat_lit 208) :: oK P (nat_lit 209) :: o210 P :: oK P (nat_lit 211) :: oK P (nat_lit 212) :: oK P (nat_lit 213) :: o214 P :: oK P (nat_lit 215) :: oK P (nat_lit 216) :: o217 P :: oK P (nat_lit 218) :: oK P (nat_lit 219) :: oK P (nat_lit 220) :: o221 P :: oK P (nat_lit 222) :: oK P (nat_lit 223) :: o224 P :: oK P (nat_lit 225) :: oK P (nat_lit 226) :: oK P (nat_lit 227) :: o228 P :: oK P (nat_lit 229) :: oK P (nat_lit 230) :: o231 P :: oK P (nat_lit 232) :: oK P (nat_lit 233) :: oK P (nat_lit 234) :: oK P (nat_lit 235) :: oK P (nat_lit 236) :: oK P (nat_lit 237) :: oK P (nat_lit 238) :: oK P (nat_lit 239) :: o240 P :: o241 P :: oK P (nat_lit 242) :: oK P (nat_lit 243) :: [])) {}
noncomputable abbrev bd : List Stmt := behindTheImports pwR
noncomputable abbrev env0 : Env := { scope := pwR.main.scope, locals := mainNs, globals := mainNs, cells := [], code := Value.ref 13, frame := some 14 }
abbrev p0 : Pos := ⟨0, 0, 0, 0⟩
noncomputable abbrev cd0 : Code := Code.body bd env0
noncomputable abbrev sh (h : Heap) (k : Nat) (os : OsState) : Shared := ⟨h, Array.mk [], {}, k, os⟩
theorem run0 (w : World) (os : OsState) : topGo treeTable pwR w 11 (some (Value.ref 6)) 12 ⟨boot_heap w.params, Array.mk [], boot_drawn, boot_toks, os⟩ (topStub pwR) = some (sh (C0 w.params) 187 os, ⟨denote treeTable cd0, cd0, p0, [topFrame p0]⟩) := by kernel_rfl
theorem run1 (w : World) (os : OsState) : segRun treeTable pwR w 11 (some (Value.ref 6)) 1 1 (sh (C0 w.params) 187 os) (blockOf bd env0 cd0 p0 [topFrame p0]) = some (.next, sh (C0 w.params) 187 os, cd0, p0) := by
  rw [Fast.te14374325043358763698, Fast.te14364793385576792824]
  kernel_rfl
theorem run2 (w : World) (os : OsState) : segRun treeTable pwR w 11 (some (Value.ref 6)) 1 269 (sh (C0 w.params) 187 os) (piecesOf (bd.take 3) env0 cd0 p0 [topFrame p0]) = some (.next, sh (C2 w.params) 227 os, cd0, ⟨5, 0, 9, 20⟩) := by
  rw [Fast.te14374325043358763698, Fast.te14364793385576792824]
  kernel_rfl
theorem run3 (w : World) (os : OsState) : segRun treeTable pwR w 11 (some (Value.ref 6)) 1 214 (sh (C2 w.params) 227 os) (piecesOf ((bd.drop 3).take 1) env0 cd0 ⟨5, 0, 9, 20⟩ [topFrame p0]) = some (.next, sh (C3 w.params) 243 os, cd0, ⟨10, 0, 11, 8⟩) := by
  rw [Fast.te14374325043358763698, Fast.te14364793385576792824]
  kernel_rfl
theorem run4 (w : World) (os : OsState) : segRun treeTable pwR w 11 (some (Value.ref 6)) 1 255 (sh (C3 w.params) 243 os) (piecesOf ((bd.drop 4).take 3) env0 cd0 ⟨10, 0, 11, 8⟩ [topFrame p0]) = some (.next, sh (C4 w.params) 271 os, cd0, ⟨15, 0, 22, 12⟩) := by
  rw [Fast.te14374325043358763698, Fast.te14364793385576792824]
  kernel_rfl
theorem run5 (w : World) (os : OsState) : segRun treeTable pwR w 11 (some (Value.ref 6)) 1 536 (sh (C4 w.params) 271 os) (piecesOf ((bd.drop 7).take 1) env0 cd0 ⟨15, 0, 22, 12⟩ [topFrame p0]) = some (.next, sh (C5 w.params) 373 os, cd0, ⟨23, 0, 58, 33⟩) := by
  rw [Fast.te14374325043358763698, Fast.te14364793385576792824]
  kernel_rfl
theorem run6 (w : World) (os : OsState) : segRun treeTable pwR w 11 (some (Value.ref 6)) 1 377 (sh (C5 w.params) 373 os) (piecesOf ((bd.drop 8).take 14) env0 cd0 ⟨23, 0, 58, 33⟩ [topFrame p0]) = some (.next, sh (C6 w.params) 478 os, cd0, ⟨126, 0, 127, 85⟩) := by
  rw [Fast.te14374325043358763698, Fast.te14364793385576792824]
  kernel_rfl
theorem run7 (w : World) (os : OsState) : segRun treeTable pwR w 11 (some (Value.ref 6)) 1 201 (sh (C6 w.params) 478 os) (piecesOf (bd.drop 22) env0 cd0 ⟨126, 0, 127, 85⟩ [topFrame p0]) = some (.next, sh (H1 w.params) 530 os, cd0, ⟨186, 0, 226, 15⟩) := by
  rw [Fast.te14374325043358763698, Fast.te14364793385576792824]
  kernel_rfl
theorem run8 (w : World) (os : OsState) : topRun treeTable pwR w 11 (some (Value.ref 6)) 2 (sh (H1 w.params) 530 os) ⟨doneF .next, cd0, ⟨186, 0, 226, 15⟩, [topFrame p0]⟩ = some (sh (H1 w.params) 530 os) := by kernel_rfl
theorem bd_parts : bd = bd.take 3 ++ ((bd.drop 3).take 1 ++ ((bd.drop 4).take 3 ++ ((bd.drop 7).take 1 ++ ((bd.drop 8).take 14 ++ (bd.drop 22 ++ []))))) := by kernel_rfl
theorem top_run (w : World) (os : OsState) : topRun treeTable pwR w 11 (some (Value.ref 6)) 1867 ⟨boot_heap w.params, Array.mk [], boot_drawn, boot_toks, os⟩ (topStub pwR) = some (sh (H1 w.params) 530 os) := by
  refine go_top (n := 12) (N := 1855) (run0 w os) ?_
  refine piece_block (n := 1) (N := 1854) (run1 w os) ?_
  rw [bd_parts]
  refine piece_app (n := 269) (N := 1585) (run2 w os) ?_
  refine piece_app (n := 214) (N := 1371) (run3 w os) ?_
  refine piece_app (n := 255) (N := 1116) (run4 w os) ?_
  refine piece_app (n := 536) (N := 580) (run5 w os) ?_
  refine piece_app (n := 377) (N := 203) (run6 w os) ?_
  refine piece_app (n := 201) (N := 2) (run7 w os) ?_
  exact piece_nil (run8 w os)
noncomputable abbrev hk : Hook := kHook K keysK keysK_ok
theorem lk1 (w : World) (os : OsState) : (staticsOk (importedModules pwR.main.body) (boot_heap w.params) (H1 w.params) && namesBound pwR (H1 w.params) && gensDone ⟨H1 w.params, Array.mk [], {}, 530, os⟩ && laidKept (boot_heap w.params) (H1 w.params)) = true := by kernel_rfl
theorem pair_eq {α β : Type _} {a c : α} {b d : β} (h1 : a = c) (h2 : b = d) : (a, b) = (c, d) := by rw [h1, h2]
theorem lk2 (w : World) (os : OsState) : openSeen view [] (importedModules pwR.main.body) (fun s => xlAt view [] s && recOk (RowW.records PySem.Challenge.rw_sa0222_01.row.toRowW) s) true ⟨H1 w.params, Array.mk [], {}, 530, os⟩ = openGood view [] := by
  rw [Fast.te4187177175401517315]
  unfold Fast.tw4187177175401517315 openGood
  repeat' with_reducible refine pair_eq ?_ ?_
  all_goals as_aux_lemma => kernel_rfl
theorem lk3 (w : World) (os : OsState) : hk.obs ⟨H1 w.params, Array.mk [], {}, 530, os⟩ = hk.val w := by kernel_rfl
theorem left : LeftO pwR view [] (fun s => xlAt view [] s && recOk (RowW.records PySem.Challenge.rw_sa0222_01.row.toRowW) s) hk.obs hk.val 3818 :=
  LeftO.of_pieces (boot_open top_open (by decide) top_fence) top_size top_run (by decide) fun w => funext fun os => looks_pair (lk1 w os) (looks_pair (lk2 w os) (lk3 w os))
theorem both_true {a b : Bool} (h1 : a = true) (h2 : b = true) : (a && b) = true := by rw [h1, h2]; rfl
theorem said_ok : OpenLaw.wellSaid PySem.Challenge.rw_sa0222_01 = true := by
  rw [Fast.te9446332074065402090]
  repeat' first
    | with_reducible refine both_true ?_ ?_
    | unfold Fast.tw9446332074065402090
    | unfold Fast.tw17960256430627541270
    | unfold Fast.tw2436336058641802641
    | unfold Fast.tw12908688711261696721
  all_goals decide +kernel
theorem hd {d : DefRec} {kwd : List (Str × Expr)} (h1 : defOf view PySem.Challenge.rw_sa0222_01.row.name = some (d, kwd)) (h2 : PySem.Challenge.rw_sa0222_01.row.prog.theDef PySem.Challenge.rw_sa0222_01.row.name = some (d.params, d.body, d.scope)) (h3 : kwWritten? d.params.kwonlyargs d.params.kw_defaults = some kwd)
    (walk : WalkO view [] (XL view []) hk.says PySem.Challenge.rw_sa0222_01.row.toRowW d kwd fun f vs => PySem.call f vs) : PySem.Challenge.rw_sa0222_01.Holds := by
  refine holds_law said_ok fun said => ?_
  refine holds_open left hk.of hk.keeps (fun s e => xl_of s (Bool.and_eq_true_iff.mp e).1) XL.keeps h1 h2 h3 (fun s e => recFacts_of (Bool.and_eq_true_iff.mp e).2) (by rfl) said (by (repeat' with_reducible refine both_true ?_ ?_); all_goals decide +kernel) ⟨rfl, rfl, rfl, rfl, rfl, by decide +kernel⟩ ?hw walk
  case hw => w_witness2
section
/-- a pure def: what comes back; the frame and the ledger stand as they stood -/
def Pure (w : World) (D : Nat) (f : Addr) (vs : List Value) (R : Value → Prop) : Prop :=
  ∀ (mean : ExcName → Option Value) (mg mb : Str → Option Value) (dp un : Nat) (gd : Option (List Code)) (cn : Str) (cs : Scope) (a : Addr) (ccd : Value) (cl : List (Str × Addr)) (outer : List Env) (A₀ : Around) (base h₀ : Heap) (L : Addr) (m : Str → Option Value) (news : List (Addr × Obj)) (s : Shared) (Q E : Value → Shared → Prop),
    Below A₀ base outer h₀ → Fr h₀ L s.heap m → (Mine.K w.params).In h₀ → News h₀ L s.heap news → Top Mine.view (looseW Mine.view []) mean mg mb h₀ → cs.kind = .function →
    dp + D < recursionLimit → un + 10 * D < cLine →
    (∀ v h' tk', R v → Fr h₀ L h' m → News h₀ L h' news → Q v { s with heap := h', toks := tk' }) →
    wpAny (model PySem.Challenge.rw_sa0222_01.row.prog w) (ktrTop dp un gd cn cs L a ccd cl outer) (call (.ref f) vs) Q E s

/-- a def that may raise an own exception and may turn the ledger -/
def Call (w : World) (D : Nat) (f : Addr) (vs : List Value) (news : List (Addr × Obj)) (R : Value → List (Addr × Obj) → Prop) (X : Addr → List (Addr × Obj) → Prop) : Prop :=
  ∀ (mean : ExcName → Option Value) (mg mb : Str → Option Value) (dp un : Nat) (gd : Option (List Code)) (cn : Str) (cs : Scope) (a : Addr) (ccd : Value) (outer : List Env) (A₀ : Around) (base h₀ : Heap) (L : Addr) (m : Str → Option Value) (s : Shared) (Q E : Value → Shared → Prop),
    Below A₀ base outer h₀ → Fr h₀ L s.heap m → (Mine.K w.params).In h₀ → News h₀ L s.heap news → Top Mine.view (looseW Mine.view []) mean mg mb h₀ → cs.kind = .function →
    dp + D < recursionLimit → un + 10 * D < cLine →
    (∀ v h' tk' news', R v news' → Fr h₀ L h' m → News h₀ L h' news' → Q v { s with heap := h', toks := tk' }) →
    (∀ C e t xs h' tk' news' g', X C news' → Fr h₀ L g' m → RaisedS base g' (envOf cn cs L a ccd :: outer) e (.ref C) t xs news' h' → g'.UpToSlots h' → E (.ref e) { s with heap := h', toks := tk' }) →
    wpAny (model PySem.Challenge.rw_sa0222_01.row.prog w) (ktrTop dp un gd cn cs L a ccd [] outer) (call (.ref f) vs) Q E s

theorem Pure.use {w : World} {D : Nat} {f : Addr} {vs : List Value} {R : Value → Prop} (H : Pure w D f vs R)
    {mean : ExcName → Option Value} {mg mb : Str → Option Value} {dp un : Nat} {gd : Option (List Code)} {cn : Str} {cs : Scope} {a : Addr} {ccd : Value} {cl : List (Str × Addr)} {outer : List Env} {A₀ : Around} {base h₀ : Heap} {L : Addr} {m : Str → Option Value} {news : List (Addr × Obj)} {s : Shared} {Q E : Value → Shared → Prop}
    (B : Below A₀ base outer h₀) (F : Fr h₀ L s.heap m) (X : (Mine.K w.params).In h₀) (N : News h₀ L s.heap news) (T : Top Mine.view (looseW Mine.view []) mean mg mb h₀) (hk : cs.kind = .function)
    (hd : dp + D < recursionLimit) (hu : un + 10 * D < cLine)
    (ret : ∀ v h' tk', R v → Fr h₀ L h' m → News h₀ L h' news → Q v { s with heap := h', toks := tk' }) :
    wpAny (model PySem.Challenge.rw_sa0222_01.row.prog w) (ktrTop dp un gd cn cs L a ccd cl outer) (call (.ref f) vs) Q E s :=
  H mean mg mb dp un gd cn cs a ccd cl outer A₀ base h₀ L m news s Q E B F X N T hk hd hu ret
theorem Call.use {w : World} {D : Nat} {f : Addr} {vs : List Value} {news : List (Addr × Obj)} {R : Value → List (Addr × Obj) → Prop} {Z : Addr → List (Addr × Obj) → Prop} (H : Call w D f vs news R Z)
    {mean : ExcName → Option Value} {mg mb : Str → Option Value} {dp un : Nat} {gd : Option (List Code)} {cn : Str} {cs : Scope} {a : Addr} {ccd : Value} {outer : List Env} {A₀ : Around} {base h₀ : Heap} {L : Addr} {m : Str → Option Value} {s : Shared} {Q E : Value → Shared → Prop}
    (B : Below A₀ base outer h₀) (F : Fr h₀ L s.heap m) (X : (Mine.K w.params).In h₀) (N : News h₀ L s.heap news) (T : Top Mine.view (looseW Mine.view []) mean mg mb h₀) (hk : cs.kind = .function)
    (hd : dp + D < recursionLimit) (hu : un + 10 * D < cLine)
    (ret : ∀ v h' tk' news', R v news' → Fr h₀ L h' m → News h₀ L h' news' → Q v { s with heap := h', toks := tk' })
    (exc : ∀ C e t xs h' tk' news' g', Z C news' → Fr h₀ L g' m → RaisedS base g' (envOf cn cs L a ccd :: outer) e (.ref C) t xs news' h' → g'.UpToSlots h' → E (.ref e) { s with heap := h', toks := tk' }) :
    wpAny (model PySem.Challenge.rw_sa0222_01.row.prog w) (ktrTop dp un gd cn cs L a ccd [] outer) (call (.ref f) vs) Q E s :=
  H mean mg mb dp un gd cn cs a ccd outer A₀ base h₀ L m s Q E B F X N T hk hd hu ret exc
theorem Pure.useR {w : World} {D : Nat} {f : Addr} {vs : List Value} {R : Value → Prop} 
    {mean : ExcName → Option Value} {mg mb : Str → Option Value} {dp un : Nat} {gd : Option (List Code)} {cn : Str} {cs : Scope} {a : Addr} {ccd : Value} {cl : List (Str × Addr)} {outer : List Env} {A₀ : Around} {base h₀ : Heap} {L : Addr} {m : Str → Option Value} {news : List (Addr × Obj)} {s : Shared} {Q E : Value → Shared → Prop}
    (B : Below A₀ base outer h₀) (F : Fr h₀ L s.heap m) (X : (Mine.K w.params).In h₀) (N : News h₀ L s.heap news) (T : Top Mine.view (looseW Mine.view []) mean mg mb h₀) (hk : cs.kind = .function)
    (hd : dp + D < recursionLimit) (hu : un + 10 * D < cLine) (H : Pure w D f vs R)
    (ret : ∀ v h' tk', R v → Fr h₀ L h' m → News h₀ L h' news → Q v { s with heap := h', toks := tk' }) :
    wpAny (model PySem.Challenge.rw_sa0222_01.row.prog w) (ktrTop dp un gd cn cs L a ccd cl outer) (call (.ref f) vs) Q E s := Pure.use H B F X N T hk hd hu ret
theorem Call.useR {w : World} {D : Nat} {f : Addr} {vs : List Value} {news : List (Addr × Obj)} {R : Value → List (Addr × Obj) → Prop} {Z : Addr → List (Addr × Obj) → Prop} 
    {mean : ExcName → Option Value} {mg mb : Str → Option Value} {dp un : Nat} {gd : Option (List Code)} {cn : Str} {cs : Scope} {a : Addr} {ccd : Value} {outer : List Env} {A₀ : Around} {base h₀ : Heap} {L : Addr} {m : Str → Option Value} {s : Shared} {Q E : Value → Shared → Prop}
    (B : Below A₀ base outer h₀) (F : Fr h₀ L s.heap m) (X : (Mine.K w.params).In h₀) (N : News h₀ L s.heap news) (T : Top Mine.view (looseW Mine.view []) mean mg mb h₀) (hk : cs.kind = .function)
    (hd : dp + D < recursionLimit) (hu : un + 10 * D < cLine) (H : Call w D f vs news R Z)
    (ret : ∀ v h' tk' news', R v news' → Fr h₀ L h' m → News h₀ L h' news' → Q v { s with heap := h', toks := tk' })
    (exc : ∀ C e t xs h' tk' news' g', Z C news' → Fr h₀ L g' m → RaisedS base g' (envOf cn cs L a ccd :: outer) e (.ref C) t xs news' h' → g'.UpToSlots h' → E (.ref e) { s with heap := h', toks := tk' }) :
    wpAny (model PySem.Challenge.rw_sa0222_01.row.prog w) (ktrTop dp un gd cn cs L a ccd [] outer) (call (.ref f) vs) Q E s := Call.use H B F X N T hk hd hu ret exc

end
section
section
variable {prog : Program} {w : World} {A : Around} {E : Value → Shared → Prop} {s : Shared}
/-- bytes(..)'s own loop over any iterator that walks n ints below 256 -/
theorem bytesLoop {R : Result → Shared → Prop} {I S : Addr} {fp wr : List Addr} {n : Nat} {P : Nat → Value → Prop} {St : Nat → Heap → Prop} {ns : List Int}
    (W : Walks prog w A.in1 I fp wr n P St) (hn : ns.length = n) (hP : ∀ i v, P i v → ∃ t, ∃ h : i < ns.length, v = .int ns[i] t) (hr : ∀ k ∈ ns, 0 ≤ k ∧ k < 256) (hz : ns.length ≤ sizeLine) (hS : S ∉ fp) :
    ∀ (k i : Nat) (s : Shared), n - i = k → i ≤ n → St i s.heap → s.heap.get? S = some { cls := .type "bytearray", data := .bytearray (byteArr (ns.take i)) } →
      (∀ h' t k', (∀ b o, b ∉ wr → b ≠ S → s.heap.get? b = some o → h'.get? b = some o) → R (.ok (.ret (.bytes (byteArr ns) t))) { s with heap := h', toks := k' }) →
      codeAny (model prog w) A (.builtin "bytes.__new__.loop" ⟨[.type "bytes", .ref I, .ref S], []⟩) R s := by
  have hSw : S ∉ wr := fun h => hS (W.sub _ h)
  intro k
  induction k with
  | zero =>
    intro i s hk hle hst hsS hR
    obtain rfl : i = n := by omega
    refine codeAny_builtin F.bm_entry_loop ?_
    rw [Around.under_plainId F.bm_plain_loop _]
    show wpAny _ A.in1 (pyNext (.ref I) >>= _) _ _ s
    refine wpAny_bind (W.done s _ _ hst fun h' tk hk' => ?_)
    have hS' := hk' S _ hSw hsS
    refine wpAny_bind ?_
    unfold Builtin.Bytes.payload Builtin.Bytes.payload?
    refine wpAny_bind (wpAny_bind (wpAny_load hS' (wpAny_pure (wpAny_pure ?_))))
    rw [← hn, List.take_length]
    refine wpAny_bind (wpAny_mkBytes ?_ (by rw [byteArr_size]; exact hz))
    show wpAny _ _ (if (Value.type "bytes" == Value.type "bytes") = true then _ else _) _ _ _
    refine bm_if_true (by decide) ?_
    exact wpAny_pure (hR h' _ _ fun b o hb _ e => hk' b o hb e)
  | succ k ih =>
    intro i s hk hle hst hsS hR
    refine codeAny_builtin F.bm_entry_loop ?_
    rw [Around.under_plainId F.bm_plain_loop _]
    show wpAny _ A.in1 (pyNext (.ref I) >>= _) _ _ s
    refine wpAny_bind (W.item i s _ _ (by omega) hst fun v h' tk hv hst' hk' => ?_)
    obtain ⟨t, hlt, rfl⟩ := hP i v hv
    obtain ⟨h0, h1⟩ := hr _ (List.getElem_mem hlt)
    have hS' := hk' S _ hSw hsS
    refine wpAny_bind (wpAny_holding (wpAny_of_eq (rfl : asIndex (.int ns[i] t) = pure ns[i]) ?_))
    refine wpAny_bind (wpAny_letGo ?_)
    refine bm_if_false (by simp only [Bool.or_eq_false_iff, decide_eq_false_iff_not]; omega) ?_
    refine wpAny_bind ?_
    show wpAny _ _ (updateBytearray S (·.push ns[i].toNat.toUInt8)) _ _ _
    unfold updateBytearray
    refine wpAny_bind (wpAny_load hS' ?_)
    show wpAny _ _ (update S (Obj.mapBytearray (·.push ns[i].toNat.toUInt8)) >>= fun _ => lookBehind S) _ _ _
    refine wpAny_bind (wpAny_update hS' ?_)
    have hS₂ : (h'.update S (Obj.mapBytearray (·.push ns[i].toNat.toUInt8))).get? S = some { cls := .type "bytearray", data := .bytearray (byteArr (ns.take (i + 1))) } := by
      rw [byteArr_take (List.getElem?_eq_getElem hlt)]
      exact Heap.get?_update_self (Obj.mapBytearray (·.push ns[i].toNat.toUInt8)) hS' rfl
    refine wpAny_lookBehind hS₂ ?_ ?_
    · show (if (byteArr (ns.take (i + 1))).size > sizeLine then some "bytearray:memory" else none) = none
      rw [if_neg]
      rw [byteArr_size, List.length_take]
      omega
    · refine wpAny_pure ⟨plainId_quiet F.bm_plain_loop _, ih (i + 1) _ (by omega) (by omega) ?_ hS₂ fun h3 t' k' hk3 => ?_⟩
      · exact W.frame _ _ _ hst' fun b hb o e => (Heap.get?_update_other _ _ (fun q : S = b => hS (q ▸ hb))).trans e
      · exact hR h3 t' k' fun b o hb hbS e => hk3 b o hb hbS ((Heap.get?_update_other _ _ (Ne.symm hbS)).trans (hk' b o hb e))

theorem tu_no_bytes : typeLookup (.type "tuple") "__bytes__" = pure none := by rw [typeLookup_type, builtinLookup_eq_fast]; kernel_rfl
theorem tu_no_index : typeLookup (.type "tuple") "__index__" = pure none := by rw [typeLookup_type, builtinLookup_eq_fast]; kernel_rfl
theorem tu_no_buffer : typeLookup (.type "tuple") "__buffer__" = pure none := by rw [typeLookup_type, builtinLookup_eq_fast]; kernel_rfl
theorem tu_split : splitId "tuple.__len__" = some ("tuple", "__len__") := by decide +kernel
theorem tu_sub : isSubtype (.type "tuple") (.type "tuple") = pure true := by rw [isSubtype_type]; kernel_rfl

theorem bytesNew_tuple {l : Addr} {vs : List Value} {ns : List Int} {Q : Value → Shared → Prop} (hh : A.handled = none) (hl : s.heap.IsTuple l vs.toArray) (hi : IntsAre vs ns) (hr : ∀ n ∈ ns, 0 ≤ n ∧ n < 256) (hz : ns.length ≤ sizeLine)
    (hQ : ∀ h' t k, (∀ b o, s.heap.get? b = some o → h'.get? b = some o) → Q (.bytes (byteArr ns) t) { s with heap := h', toks := k }) :
    codeAny (model prog w) A (.call (.builtin "bytes.__new__") ⟨[.type "bytes", .ref l], []⟩) (wants Q E) s := by
  refine codeAny_of_tree ?_
  show wpAny _ A.in1 (do checkBuiltinCall "bytes.__new__" ⟨[.type "bytes", .ref l], []⟩; again (.builtin "bytes.__new__" ⟨[.type "bytes", .ref l], []⟩)) _ _ s
  refine wpAny_bind (wpAny_of_eq (F.bm_newCall _) (wpAny_pure ⟨plainId_quiet F.bm_plain _, codeAny_builtin F.bm_entry ?_⟩))
  rw [Around.under_plainId F.bm_plain _]
  have hT : s.TypeIs (.ref l) "tuple" := hl.typeIs
  obtain ⟨ol, hol, hoc, nl, hod⟩ := id hl
  unfold Builtin.«bytes.__new__»
  refine wpAny_bind (wpAny_of_eq (a := true) rfl (bm_if_false rfl (wpAny_bind (wpAny_of_eq F.bm_sub (bm_if_false rfl (wpAny_bind (wpAny_of_eq (F.bm_bind _) ?_)))))))
  refine wpAny_bind (wpAny_of_eq (a := ()) rfl (wpAny_bind (wpAny_of_eq (a := ()) rfl (bm_if_false rfl ?_))))
  refine wpAny_bind (wpAny_specialOf hT tu_no_bytes ?_)
  refine wpAny_bind (wpAny_bind ?_)
  show wpAny _ _ (load l >>= _) _ _ _
  refine wpAny_bind (wpAny_load hol ?_)
  rw [hod]
  refine wpAny_pure (wpAny_pure (bm_if_false rfl ?_))
  refine wpAny_bind (wpAny_specialOf hT tu_no_index ?_)
  refine bm_if_true rfl ?_
  show wpAny _ _ (Builtin.Bytes.buffer? "bytes.__new__" (.ref l) true >>= _) _ _ _
  refine wpAny_bind ?_
  unfold Builtin.Bytes.buffer?
  refine wpAny_bind (wpAny_specialOf hT tu_no_buffer (wpAny_bind (wpAny_specialOf hT tu_no_buffer (wpAny_pure ?_))))
  refine wpAny_bind (wpAny_tryCatch (wpAny_pyIter_tuple hl ?_))
  have hl₁ := hl.push { cls := .type "tuple_iterator", data := .fields #[.ref l, .int 0 0] }
  have hT₁ : ({ s with heap := s.heap.push { cls := .type "tuple_iterator", data := .fields #[.ref l, .int 0 0] } } : Shared).TypeIs (.ref l) "tuple" := Heap.IsTuple.typeIs (s := { s with heap := s.heap.push { cls := .type "tuple_iterator", data := .fields #[.ref l, .int 0 0] } }) hl₁
  refine wpAny_bind (wpAny_holding ?_)
  unfold Builtin.Bytes.lengthHint
  refine wpAny_bind (wpAny_specialOf hT₁ F.slot_tuple_len.lookup ?_)
  dsimp only
  rw [tu_split]
  dsimp only
  refine wpAny_bind (wpAny_isInstance hT₁ tu_sub (bm_if_false rfl (bm_if_true (by decide +kernel) (wpAny_pure (wpAny_bind ?_)))))
  unfold Builtin.Bytes.newBytearray
  refine wpAny_newObj_type ?_ (Nat.zero_le _)
  have hI : ((s.heap.push { cls := .type "tuple_iterator", data := .fields #[.ref l, .int 0 0] }).push { cls := .type "bytearray", data := .bytearray #[] }).IsTupleIter s.heap.objs.size l 0 :=
    ⟨_, Heap.get?_push_of_some _ (Heap.get?_push_size _ rfl), rfl, rfl⟩
  have hlt : l < s.heap.objs.size := Heap.lt_size hol
  have hsz : (s.heap.push { cls := .type "tuple_iterator", data := .fields #[.ref l, .int 0 0] }).objs.size = s.heap.objs.size + 1 := Heap.size_push _ _
  have hlen : vs.toArray.size = ns.length := by simp [hi.length]
  have main := bytesLoop (prog := prog) (w := w) (A := A) (R := wants Q E) (S := (s.heap.push { cls := .type "tuple_iterator", data := .fields #[.ref l, .int 0 0] }).objs.size)
    (Walks.tuple (prog := prog) (w := w) (A := A.in1) hh s.heap.objs.size l (Nat.ne_of_lt hlt) vs.toArray) hlen.symm
    (fun i v hv => by
      obtain ⟨k, t, rfl, hk⟩ := IntsAre.at hi i v (by simpa using hv)
      obtain ⟨hlt', rfl⟩ := List.getElem?_eq_some_iff.mp hk
      exact ⟨t, hlt', rfl⟩) hr hz
    (by rw [hsz]; intro h; rcases List.mem_cons.mp h with q | q
        · exact Nat.succ_ne_self _ q
        · exact Nat.ne_of_gt (Nat.lt_succ_of_lt hlt) (List.mem_singleton.mp q))
    vs.toArray.size 0 { s with heap := (s.heap.push { cls := .type "tuple_iterator", data := .fields #[.ref l, .int 0 0] }).push { cls := .type "bytearray", data := .bytearray #[] } } rfl (Nat.zero_le _) ⟨hI, hl₁.push _⟩ (Heap.get?_push_size _ rfl)
    fun h' t k hk => hQ h' t k fun b o e => hk b o (by simpa using Nat.ne_of_lt (Heap.lt_size e)) (by rw [hsz]; exact Nat.ne_of_lt (Nat.lt_succ_of_lt (Heap.lt_size e))) (Heap.get?_push_of_some _ (Heap.get?_push_of_some _ e))
  exact wpAny_pure ⟨plainId_quiet F.bm_plain_loop _, main⟩

theorem call_bytes_tuple {l : Addr} {vs : List Value} {ns : List Int} {Q : Value → Shared → Prop} {h₀ : Heap} {L : Addr} {m : Str → Option Value} {news : List (Addr × Obj)} (F' : Fr h₀ L s.heap m) (N : News h₀ L s.heap news)
    (hh : A.handled = none) (hl : s.heap.IsTuple l vs.toArray) (hi : IntsAre vs ns) (hr : KBa.In ns) (hz : ns.length ≤ 16777216)
    (h : ∀ h' t' k, Fr h₀ L h' m → News h₀ L h' news → KBa.In ns → Q (.bytes (byteArr ns) t') { s with heap := h', toks := k }) : wpAny (model prog w) A (call (.type "bytes") [.ref l]) Q E s := by
  refine callType_codes (Q₁ := fun obj s₁ => s₁.TypeIs obj "bytes" ∧ Q obj s₁) F.bm_called (F.bm_typeCall _) F.entry_object_init
    (bytesNew_tuple hh hl hi hr (by rw [sizeLine_eq]; exact hz) fun h' t k hk => ⟨PySem.W.typeIs_bytes _ _ _, h h' t k (F'.keptAll hk) (N.grown hk) hr⟩) fun obj s₁ h₁ => ?_
  exact ⟨h₁.1, F.args_object_init_2 obj _, object_init_meets F.bm_called.init.lookup F.bm_called.made (by decide) prog w A.in1 _ s₁ ⟨h₁.1, rfl, h₁.2⟩⟩
end

end
section
section
variable {prog : Program} {w : World} {A : Around} {R : Result → Shared → Prop} {E : Value → Shared → Prop} {s : Shared} {K : Frag} {h₀ : Heap} {L e d C : Addr} {m : Str → Option Value} {news : List (Addr × Obj)}

theorem storeInDict_K {dx : Addr} {es : List DictEntry} {n : Nat} {name : Str} {tk : Tok} {v : Value} {Q : Fin → Shared → Prop}
    (D : s.heap.get? dx = some (dictOf es n)) (hl : (getL name es).isSome = true) (hz : (putL name (PyData.keyHash w.params name) (.str name s.toks) v es).length ≤ 1000)
    (h : Q (.done (.ret .none)) { s with heap := s.heap.update dx (Obj.putName name (PyData.keyHash w.params name) (.str name s.toks) v), toks := s.toks + 1 }) :
    wpAny (model prog w) A (storeInDict dx (.str name tk) name v) Q E s := by
  have pn := putName_dict name (PyData.keyHash w.params name) (.str name s.toks) v es n
  have D' : (s.heap.update dx (Obj.putName name (PyData.keyHash w.params name) (.str name s.toks) v)).get? dx = some (dictOf (putL name (PyData.keyHash w.params name) (.str name s.toks) v es) (putN name es n)) := by
    rw [← pn]; exact Heap.get?_update_self _ D (by rw [pn]; rfl)
  refine wpAny_bind (wpAny_pure (wpAny_bind ?_))
  unfold nsSet
  refine wpAny_bind (wpAny_bind (wpAny_askSetting (wpAny_pure (wpAny_bind (wpAny_mkText (wpAny_bind (wpAny_loadPart D ?_)))))))
  have c : (!es.toArray.any (·.key.isStr name) && es.toArray.any (·.refKey)) = false := by
    rw [List.any_toArray, List.any_toArray]
    unfold getL at hl
    split at hl
    · rename_i en he
      rw [List.any_eq_true.mpr ⟨en, List.mem_of_find?_eq_some he, List.find?_some he⟩]; rfl
    · split at hl
      · cases hl
      · rename_i z; rw [Bool.not_eq_true] at z; rw [z, Bool.and_false]
  dsimp only
  rw [aRefKeyMayBeTheName_at, c]
  refine wpAny_updatePart D ?_
  refine wpAny_bind (wpAny_lookBehind D' (pastItsLine_dict (by rw [List.size_toArray, sizeLine_eq]; omega)) ?_)
  exact wpAny_pure h

/-- the mro's own "__setattr__" guard lets through -/
def Lets (mro : List Value) : Prop := (∀ self, refuseLoop self "__setattr__" mro = pure ()) ∧ mro.contains (.type "object") = true ∧ mro.isEmpty = false

theorem lets_exc {a b : Addr} : Lets [.ref a, .ref b, .type "Exception", .type "BaseException", .type "object"] := by
  refine ⟨fun self => ?_, by simp, rfl⟩
  rw [refuseLoop_ref, refuseLoop_ref]
  kernel_rfl

theorem exc_sa {ox : Obj} {od : Option Obj} {cd : ClassData} {name : Str} {v : Value} {Q : Unit → Shared → Prop} {x : Addr} (X : K.In s.heap) (I : InstAt s.heap x ox C od)
    (hs : findIn K (.ref C) "__setattr__" = some (some (.builtin "object.__setattr__"))) (hc : clsIn K C = some cd) (hp : Lets cd.mro) (hn : findIn K (.ref C) name = some none)
    (h : wpAny (model prog w) A.in1 (storeInOwnDict (.ref x) (.ref C) (.str name s.toks) name v false) (fun fin s' => match fin with | .done (.ret _) => Q () s' | _ => False) (fun e s' => E e s') { s with toks := s.toks + 1 }) :
    wpAny (model prog w) A (setAttr (.ref x) name v) Q E s := by
  refine set_plain X I hs ?_
  have SF := PySem.F.store_object
  have sub : Looks (model prog w) s.heap (isInstance (.ref x) (.type "object")) true := I.type.andThen (looks_mroIn X (by unfold mroIn; rw [hc, Option.bind_some, if_neg (by rw [hp.2.2]; decide), hp.2.1]))
  refine codeAny_call_builtin SF.slot.plain SF.entry (@check_slot (model prog w) _ _ { s with toks := s.toks + 1 } "object.__setattr__" "object" "__setattr__" (.ref x) [.str name s.toks, v] [] _ SF.kind SF.split sub (SF.args (.ref x) (.str name s.toks) v) ?_)
  have hm : Looks (model prog w) s.heap (mroOf (.ref C)) cd.mro := (looks_clsIn X hc).andThen .now
  rw [osa_eq, refuse_eq]
  refine wpAny_bind (wpAny_bind ((I.type).here (s := { s with toks := s.toks + 1 }) (wpAny_bind (hm.here (s := { s with toks := s.toks + 1 }) ?_))))
  rw [hp.1]
  refine wpAny_pure (wpAny_bind ((I.type).here (s := { s with toks := s.toks + 1 }) (wpAny_bind ((looks_findIn X hn).here (s := { s with toks := s.toks + 1 }) (wpAny_bind (wpAny_pure ?_))))))
  refine wpAny_mono h (fun fin s' z => ?_) fun _ _ z => z
  rcases fin with f | c
  · rcases f with v | _ | _ | _ <;> first | exact z | exact z.elim
  · exact z.elim

/-- the first field stored in an exception's object: its dict is made -/
theorem exc_set_new {cd : ClassData} {name : Str} {v : Value} {Q : Unit → Shared → Prop} {x : Addr} {fs : Array Value} (F : Fr h₀ L s.heap m) (X₀ : K.In h₀)
    (N : News h₀ L s.heap ((x, ⟨.ref C, none, .fields fs, #[]⟩) :: news)) (hx : ∀ p ∈ news, p.1 ≠ x)
    (hs : findIn K (.ref C) "__setattr__" = some (some (.builtin "object.__setattr__"))) (hc : clsIn K C = some cd) (hp : Lets cd.mro) (hn : findIn K (.ref C) name = some none) (hd : cd.hasDict = true)
    (h : ∀ h' tk d, Fr h₀ L h' m → News h₀ L h' ((x, ⟨.ref C, some d, .fields fs, #[]⟩) :: (d, dictOf [⟨PyData.keyHash w.params name, .str name (s.toks + 1), v⟩] 1) :: news) → (∀ p ∈ news, p.1 ≠ d) → d ≠ x → Q () { s with heap := h', toks := tk }) :
    wpAny (model prog w) A (setAttr (.ref x) name v) Q E s := by
  have X := X₀.keeps F.keep
  have hX := (N _ (.head _)).1
  refine exc_sa X (od := none) ⟨hX, rfl, rfl, trivial⟩ hs hc hp hn ?_
  unfold storeInOwnDict
  refine wpAny_bind (wpAny_pure ?_)
  refine bm_if_false rfl ?_
  refine wpAny_bind ?_
  show wpAny _ _ (instanceDict x true) _ _ _
  unfold instanceDict
  refine wpAny_bind (wpAny_loadPart (s := { s with toks := s.toks + 1 }) hX ?_)
  dsimp only
  refine wpAny_bind ((looks_clsIn X hc).here (s := { s with toks := s.toks + 1 }) ?_)
  rw [hd]
  refine bm_if_false rfl ?_
  refine bm_if_false rfl ?_
  refine wpAny_bind (wpAny_alloc ?_)
  have N1 : News h₀ L (s.heap.push (dictOf [] 0)) ((s.heap.objs.size, dictOf [] 0) :: (x, ⟨.ref C, none, .fields fs, #[]⟩) :: news) := N.push F (dictOf [] 0)
  have F1 : Fr h₀ L (s.heap.push (dictOf [] 0)) m := F.push _
  have hxd : x ≠ s.heap.objs.size := Nat.ne_of_lt (Heap.lt_size hX)
  obtain ⟨F2, N2⟩ := news_upd (pre := [(s.heap.objs.size, dictOf [] 0)]) (f := fun o => { o with dict := some s.heap.objs.size }) (o' := ⟨.ref C, some s.heap.objs.size, .fields fs, #[]⟩) F1 N1
    (by intro p hp; rw [List.mem_singleton.mp hp]; exact Ne.symm hxd) hx rfl rfl
  refine wpAny_bind (wpAny_update (N1 _ (.tail _ (.head _))).1 ?_)
  refine wpAny_bind (wpAny_pure ?_)
  refine wpAny_pure ?_
  have hdn : ∀ p ∈ news, p.1 ≠ s.heap.objs.size := fun p hp => Nat.ne_of_lt (Heap.lt_size (N p (.tail _ hp)).1)
  obtain ⟨F3, N3⟩ := news_upd (pre := []) (f := Obj.putName name (PyData.keyHash w.params name) (.str name (s.toks + 1)) v) (o' := dictOf [⟨PyData.keyHash w.params name, .str name (s.toks + 1), v⟩] 1) F2 N2
    (by intro p hp; cases hp) (by intro p hp; rcases List.mem_cons.mp hp with rfl | hp; exact hxd; exact hdn p hp) (putName_dict ..) rfl
  refine storeInDict_K (s := ⟨_, _, _, _, _⟩) (N2 _ (.head _)).1 rfl (Nat.le_of_ble_eq_true rfl) ?_
  exact h _ _ s.heap.objs.size F3 (fun p hp => N3 p (by
    rcases List.mem_cons.mp hp with rfl | hp
    · exact .tail _ (.head _)
    · rcases List.mem_cons.mp hp with rfl | hp
      · exact .head _
      · exact .tail _ (.tail _ hp))) hdn (Ne.symm hxd)

theorem exc_set_old {cd : ClassData} {name : Str} {v : Value} {Q : Unit → Shared → Prop} {x d : Addr} {fs : Array Value} {es : List DictEntry} {n : Nat} (F : Fr h₀ L s.heap m) (X₀ : K.In h₀)
    (N : News h₀ L s.heap ((x, ⟨.ref C, some d, .fields fs, #[]⟩) :: (d, dictOf es n) :: news)) (hx : ∀ p ∈ news, p.1 ≠ d) (hxd : d ≠ x)
    (hs : findIn K (.ref C) "__setattr__" = some (some (.builtin "object.__setattr__"))) (hc : clsIn K C = some cd) (hp : Lets cd.mro) (hn : findIn K (.ref C) name = some none) (hd : cd.hasDict = true)
    (hl : (getL name es).isSome = true) (hz : (putL name (PyData.keyHash w.params name) (.str name (s.toks + 1)) v es).length ≤ 1000)
    (h : ∀ h' tk, Fr h₀ L h' m → News h₀ L h' ((x, ⟨.ref C, some d, .fields fs, #[]⟩) :: (d, dictOf (putL name (PyData.keyHash w.params name) (.str name (s.toks + 1)) v es) (putN name es n)) :: news) → Q () { s with heap := h', toks := tk }) :
    wpAny (model prog w) A (setAttr (.ref x) name v) Q E s := by
  have X := X₀.keeps F.keep
  have hX := (N _ (.head _)).1
  have hD := (N _ (.tail _ (.head _))).1
  refine exc_sa X (od := some (dictOf es n)) ⟨hX, rfl, rfl, hD⟩ hs hc hp hn ?_
  unfold storeInOwnDict
  refine wpAny_bind (wpAny_pure ?_)
  refine bm_if_false rfl ?_
  refine wpAny_bind ?_
  show wpAny _ _ (instanceDict x true) _ _ _
  unfold instanceDict
  refine wpAny_bind (wpAny_loadPart (s := { s with toks := s.toks + 1 }) hX ?_)
  dsimp only
  refine wpAny_bind ((looks_clsIn X hc).here (s := { s with toks := s.toks + 1 }) ?_)
  rw [hd]
  refine bm_if_false rfl ?_
  refine wpAny_pure ?_
  obtain ⟨F3, N3⟩ := news_upd (pre := [(x, ⟨.ref C, some d, .fields fs, #[]⟩)]) (f := Obj.putName name (PyData.keyHash w.params name) (.str name (s.toks + 1)) v) (o' := dictOf (putL name (PyData.keyHash w.params name) (.str name (s.toks + 1)) v es) (putN name es n)) F N
    (by intro p hp; rw [List.mem_singleton.mp hp]; exact Ne.symm hxd) hx (putName_dict ..) rfl
  refine storeInDict_K (s := ⟨_, _, _, _, _⟩) hD hl hz ?_
  exact h _ _ F3 N3
end

end
section
section
variable {prog : Program} {w : World} {A : Around} {R : Result → Shared → Prop} {E : Value → Shared → Prop} {h : Heap} {g : Array GenState} {d : Drawn} {t : Nat} {os : OsState}
variable {nm q : Str} {C N : Addr} {bs bm : List Value} {hdct : Bool} {sn : List Str} {sub : List Value} {ab : Bool} {col : Option Bool} {dd : Option Addr} {k0 k1 k2 k3 k5 : Option Value}

structure BmOk (bm : List Value) : Prop where
  exc : bm.contains (.type "Exception") = true
  base : bm.contains (.type "BaseException") = true
  attr : bm.contains (.type "AttributeError") = false
  name : bm.contains (.type "NameError") = false

theorem exc_chk_new {M : Model} (B : BmOk bm) {rest : List Value} {Q : Unit → Shared → Prop} (hC : h.get? C = some (excClassObj nm q C N bs bm hdct sn sub ab col dd k0 k1 k2 k3 k5 "Exception.__new__"))
    (hq : Q () ⟨h, g, d, t, os⟩) : wpAny M A (checkBuiltinCall "Exception.__new__" ⟨.ref C :: rest, []⟩) Q E ⟨h, g, d, t, os⟩ := by
  have hcont : (Value.ref C :: bm).contains (.type "Exception") = true := by rw [List.contains_cons, B.exc, Bool.or_true]
  have hstar := PySem.F.excBase_Exception.noStar
  simp only [checkBuiltinCall, PySem.F.excBase_Exception.newKind, PySem.F.excBase_Exception.newSplit, PySem.F.excBase_Exception.newRow]
  repeat (first | refine wpAny_loadPart_at hC ?_ | (refine wpAny_isSubtype_exc hC ?_; rw [hcont]) | refine wpAny_staticBase_exc hC ?_ | refine wpAny_madeBy_exc hC ?_ | simp only [bne_self_eq_false, Bool.false_eq_true, if_false] | wp_step)
  exact hq

theorem exc_new (B : BmOk bm) {rest : List Value} (hC : h.get? C = some (excClassObj nm q C N bs bm hdct sn sub ab col dd k0 k1 k2 k3 k5 "Exception.__new__"))
    (hq : R (.ok (.ret (.ref (h.objs.size + 1)))) ⟨(h.push { cls := .type "tuple", data := .seq rest.toArray }).push
      { cls := .ref C, data := .fields #[.ref h.objs.size, .none, .none, .none, .bool false, .none] }, g, d, t, os⟩) (hrest : rest.length ≤ sizeLine := by size_fits) :
    codeAny (model prog w) A (.builtin "Exception.__new__" ⟨.ref C :: rest, []⟩) R ⟨h, g, d, t, os⟩ := by
  have hends := PySem.F.excBase_Exception.ends
  have hcB : (Value.ref C :: bm).contains (.type "Exception") = true := by rw [List.contains_cons, B.exc, Bool.or_true]
  have hcA : (Value.ref C :: bm).contains (.type "AttributeError") = false := by rw [List.contains_cons, B.attr]; rfl
  have hcN : (Value.ref C :: bm).contains (.type "NameError") = false := by rw [List.contains_cons, B.name]; rfl
  refine codeAny_builtinAt PySem.F.excBase_Exception.entry ?_
  unfold Builtin.«BaseException.__new__»
  refine PySem.wpAt_bind ?_
  show PySem.wpAt _ _ _ (stack >>= _) _ _ _
  refine PySem.wpAt_bind (PySem.wpAt_stack fun p below => PySem.wpAt_of_wpAny ?_)
  wp_walk
  refine PySem.wpAt_of_wpAny ?_
  rw [PySem.F.excBase_Exception.owner]
  repeat (first | with_reducible refine wpAny_madeHere_exc PySem.F.excBase_Exception.canon hC ?_ | with_reducible refine wpAny_loadPart_at hC ?_ | (with_reducible refine wpAny_isSubtype_exc hC ?_; first | rw [hcB] | rw [hcA] | rw [hcN]) | wp_step)
  show R _ _
  rw [Heap.size_push]
  exact hq

/-- what stands when an own exception's object is made, ahead of its __init__ -/
def ExcObj (C t : Addr) : Obj := ⟨.ref C, none, .fields #[.ref t, .none, .none, .none, .bool false, .none], #[]⟩

theorem exc_type_call {K : Frag} (X : K.In h) (B : BmOk bm) {rest : List Value} {fI : Addr} {Q : Fin → Shared → Prop}
    (hC : h.get? C = some (excClassObj nm q C N bs bm hdct sn sub ab col dd k0 k1 k2 k3 k5 "Exception.__new__"))
    (hi : findIn K (.ref C) "__init__" = some (some (.ref fI))) (hf : typeIn K (.ref fI) = some (.type "function"))
    (hq : wpAny (model prog w) A (call (.ref fI) (.ref (h.objs.size + 1) :: rest)) (fun r s' => r = .none ∧ Q (.done (.ret (.ref (h.objs.size + 1)))) s') E
      ⟨(h.push { cls := .type "tuple", data := .seq rest.toArray }).push (ExcObj C h.objs.size), g, d, t, os⟩) (hrest : rest.length ≤ sizeLine := by size_fits) :
    wpAny (model prog w) A (Builtin.«type.__call__» ⟨.ref C :: rest, []⟩) Q E ⟨h, g, d, t, os⟩ := by
  repeat (first | with_reducible refine wpAny_loadPart_at hC ?_ | with_reducible refine wpAny_madeBy_exc hC ?_ | wp_step)
  refine codeAny_call_builtin_code (Code.quiet_builtin _ PySem.F.excBase_Exception.quiet) (exc_chk_new B hC ?_)
  refine exc_new B hC ?_ hrest
  show wpAny _ _ _ _ _ _
  have kk : ∀ b o, h.get? b = some o → ((h.push { cls := .type "tuple", data := .seq rest.toArray }).push (ExcObj C h.objs.size)).get? b = some o := fun b o e => Heap.get?_push_of_some _ (Heap.get?_push_of_some _ e)
  have hC₁ := kk _ _ hC
  have X₁ := X.keeps kk
  have hget : ((h.push { cls := .type "tuple", data := .seq rest.toArray }).push (ExcObj C h.objs.size)).get? (h.objs.size + 1) = some (ExcObj C h.objs.size) := by
    have := Heap.get?_push_size (h.push { cls := .type "tuple", data := .seq rest.toArray }) (show (ExcObj C h.objs.size).isFreed = false from rfl)
    rwa [Heap.size_push] at this
  have hcC : (Value.ref C :: bm).contains (.ref C) = true := by simp
  unfold ExcObj at *
  unfold isInstance
  repeat (first | with_reducible refine wpAny_loadPart_at hget ?_ | (with_reducible refine wpAny_isSubtype_exc hC₁ ?_; rw [hcC]) | wp_step)
  show wpAny _ _ (typeLookup (.ref C) _) _ _ _
  refine (looks_findIn X₁ hi).here (s := ⟨_, _, _, _, _⟩) ?_
  refine wpAny_holding (wpAny_bind ((bind_fn X₁ _ hf).here (s := ⟨_, _, _, _, _⟩) ?_))
  refine wpAny_bind (wpAny_mono hq (fun r s' hr => ?_) fun _ _ x => x)
  obtain ⟨rfl, hQ⟩ := hr
  wp_walk
  exact hQ

theorem exc_call {K : Frag} (X : K.In h) (B : BmOk bm) {rest : List Value} {fI : Addr} {Q : Value → Shared → Prop}
    (hC : h.get? C = some (excClassObj nm q C N bs bm hdct sn sub ab col dd k0 k1 k2 k3 k5 "Exception.__new__"))
    (hi : findIn K (.ref C) "__init__" = some (some (.ref fI))) (hf : typeIn K (.ref fI) = some (.type "function"))
    (hq : wpAny (model prog w) (A.under (.builtin "type.__call__" ⟨.ref C :: rest, []⟩)) (call (.ref fI) (.ref (h.objs.size + 1) :: rest)) (fun r s' => r = .none ∧ Q (.ref (h.objs.size + 1)) s') E
      ⟨(h.push { cls := .type "tuple", data := .seq rest.toArray }).push (ExcObj C h.objs.size), g, d, t, os⟩) (hrest : rest.length ≤ sizeLine := by size_fits) :
    wpAny (model prog w) A (call (.ref C) rest) Q E ⟨h, g, d, t, os⟩ := by
  have f1 := tc_lookup
  have f2 := tc_bind (.ref C)
  have hT : (⟨h, g, d, t, os⟩ : Shared).TypeIs (.ref C) "type" := ⟨_, hC, rfl⟩
  refine wpAny_call (codeAny_of_tree ?_)
  show wpAny _ _ (callAny (.ref C) _) _ _ _
  repeat (any_goals (first | assumption | with_reducible refine wpAny_loadPart_at hC ?_ | wp_step))
  refine ⟨rfl, ?_⟩
  refine codeAny_call_builtin_at (Code.quiet_builtin _ (by decide +kernel)) entry_typeCall (wpAny_check_type_call_sub hC (exc_type_call (hrest := hrest) X B hC hi hf hq))

end

end
section
section
variable {M : Model} {A : Around} {E : Value → Shared → Prop} {s : Shared} {base g : Heap} {outer : List Env} {L a e t : Addr} {m : Str → Option Value} {name : Str} {scope : Scope} {cd : Value} {Q : Unit → Shared → Prop} {news : List (Addr × Obj)}

abbrev excFields (t : Addr) : Array Value := #[.ref t, .none, .none, .none, .bool false, .none]

/-- an own exception's object of the ledger leaves the frame that made it -/
theorem leave_mine {C : Addr} {od : Option Addr} {vs : List Value} (K : Below A base outer g) (F : Fr g L s.heap m)
    (N : News g L s.heap ((e, ⟨.ref C, od, .fields (excFields t), #[]⟩) :: (t, { cls := .type "tuple", data := .seq vs.toArray }) :: news)) (he : ∀ p ∈ news, p.1 ≠ e) (ht : ∀ p ∈ news, p.1 ≠ t)
    (hQ : ∀ h', RaisedS base g outer e (.ref C) t vs news h' → g.UpToSlots h' → Q () { s with heap := h' }) (hk : scope.kind = .function := by rfl) :
    wpAny M (A.deeper (envOf name scope L a cd)) (leaving (envOf name scope L a cd) (.ref e)) Q E s := by
  have K' := K.push (name := name) (a := a) (cd := cd) F hk
  have Ne := N _ (.head _)
  have Nt := N _ (.tail _ (.head _))
  have Nn : ∀ q ∈ news, s.heap.get? q.1 = some q.2 ∧ q.1 ≠ L ∧ g.get? q.1 = none := fun q hq => N q (.tail _ (.tail _ hq))
  let fs := (envOf name scope L a cd :: outer).filterMap (·.frame)
  have hfr : ∀ b ∈ fs, b = L ∨ ∃ o, g.get? b = some o := fun b hm => by
    rcases kts_mem hm with z | z
    · exact .inl z
    · obtain ⟨_, o, ho, _⟩ := K.frames.mem z
      exact .inr ⟨o, ho⟩
  have notfr : ∀ b, b ≠ L → g.get? b = none → b ∉ fs := fun b h1 h2 hm => by
    rcases hfr b hm with z | ⟨o, z⟩
    · exact h1 z
    · rw [h2] at z; cases z
  have hin : ∀ env ∈ (envOf name scope L a cd :: outer), ∀ b, env.frame = some b → b ∈ e :: t :: fs := fun env he b hb => .tail _ (.tail _ (List.mem_filterMap.mpr ⟨env, he, hb⟩))
  let B := hideAll s.heap (e :: t :: fs)
  have sg : ∀ b o, g.get? b = some o → b ∉ outer.filterMap (·.frame) → B.get? b = some o := fun b o q nm => hideAll_get _ (F.keep b o q) fun hm => by
    rcases List.mem_cons.mp hm with rfl | hm
    · rw [Ne.2.2] at q; cases q
    · rcases List.mem_cons.mp hm with rfl | hm
      · rw [Nt.2.2] at q; cases q
      · rcases kts_mem hm with z | z
        · rw [z, kts_self F] at q; cases q
        · exact nm z
  have st : base.StaysIn B := fun b o q => sg b o (K.stays b o q) fun hm => by
    rw [(K.frames.mem hm).1] at q; cases q
  have hl : ∀ q ∈ news, B.get? q.1 = some q.2 ∧ g.get? q.1 = none ∧ base.get? q.1 = none := fun q hq => by
    refine ⟨hideAll_get _ (Nn q hq).1 fun hm => ?_, (Nn q hq).2.2, fresh_of_stays K.stays (Nn q hq).2.2⟩
    rcases List.mem_cons.mp hm with z | hm
    · exact he q hq z
    · rcases List.mem_cons.mp hm with z | hm
      · exact ht q hq z
      · exact notfr _ (Nn q hq).2.1 (Nn q hq).2.2 hm
  have hBs : B.StaysIn s.heap := fun b o q => of_hideAll _ q
  have hBe : B.get? e = none := hideAll_none _ (.head _)
  have hBt : B.get? t = none := hideAll_none _ (.tail _ (.head _))
  have hFF : s.heap.FunFrames B (envOf name scope L a cd :: outer) := funFrames_hide K'.frames hin
  refine wpAny_leaving_firstW (base := B) (a0 := .ref t) K'.stack hFF rfl Ne.1 hBs hBe rfl rfl rfl fun h' hL => ?_
  obtain ⟨k1, ⟨_, _, k2⟩, k3, k4⟩ := hL
  have htup : s.heap.TupAt t vs := ⟨_, _, Nt.1, rfl, rfl⟩
  exact hQ h' ⟨⟨B, st, sg, hl, ⟨k1, hBe, k2, k3⟩, hBt⟩, htup.of_slots k4⟩ ((Heap.UpToSlots.of_keeps F.keep).trans k4)
end

end
local macro_rules | `(tactic| walk_at $s:str) => `(tactic| k_extra $s)
section
theorem w1 : True := by
  k_with_none
  (k_with "setAttr ref" => ((k_here; k_dflt (first
  | (refine' exc_set_new (by k_asm) (by k_asm) (by k_asm) (by assumption) (by assumption) (by assumption) (by assumption) (by assumption) (by assumption) ?_; k_whole; intro h' tk' d' F' N' hnd' hdx')
  | (refine' exc_set_old (by k_asm) (by k_asm) (by k_asm) (by assumption) (by assumption) (by assumption) (by assumption) (by assumption) (by assumption) (by assumption) (by rfl) (by exact Nat.le_of_ble_eq_true rfl) ?_; k_whole; intro h' tk' F' N')))))
  trivial
theorem init_ok (w : World) (C : Addr) (cdC : ClassData) (e : Addr) (fs : Array Value) (v1 v2 : Value) :
  ∀ (mean : ExcName → Option Value) (mg mb : Str → Option Value) (dp un : Nat) (gd : Option (List Code)) (cn : Str) (cs : Scope) (a : Addr) (ccd : Value) (cl : List (Str × Addr)) (outer : List Env) (A₀ : Around) (base h₀ : Heap) (L : Addr) (m : Str → Option Value) (news : List (Addr × Obj)) (s : Shared) (Q E : Value → Shared → Prop),
    findIn (Mine.K w.params) (.ref C) "__setattr__" = some (some (.builtin "object.__setattr__")) → clsIn (Mine.K w.params) C = some cdC → Lets cdC.mro →
    findIn (Mine.K w.params) (.ref C) "code" = some none → findIn (Mine.K w.params) (.ref C) "at" = some none → cdC.hasDict = true →
    Below A₀ base outer h₀ → Fr h₀ L s.heap m → (Mine.K w.params).In h₀ → News h₀ L s.heap ((e, ⟨.ref C, none, .fields fs, #[]⟩) :: news) → (∀ p ∈ news, p.1 ≠ e) → Top Mine.view (looseW Mine.view []) mean mg mb h₀ → cs.kind = .function →
    dp + 20 < recursionLimit → un + 200 < cLine →
    (∀ h' tk' d od, Fr h₀ L h' m → News h₀ L h' ((e, ⟨.ref C, some d, .fields fs, #[]⟩) :: (d, od) :: news) → Q .none { s with heap := h', toks := tk' }) →
    wpAny (model PySem.Challenge.rw_sa0222_01.row.prog w) (ktrTop dp un gd cn cs L a ccd cl outer) (call (.ref 35) [.ref e, v1, v2]) Q E s := by
  k_fill
  intro mean mg mb dp un gd cn cs a ccd cl outer A₀ base h₀ L m news s Q E k1 k2 k3 k4 k5 k6 B F X N hne T hk hd hu hret
  refine wpAny_call ?_
  k_dflt cell_enter
  k_steps
  all_goals exact hret _ _ _ _ (by k_asm) (by k_asm)

end
section
theorem under_make {dp un : Nat} {gd : Option (List Code)} {cn : Str} {cs : Scope} {L a : Addr} {ccd : Value} {cl : List (Str × Addr)} {outer : List Env} {C : Addr} {rest : List Value} :
    (ktrTop dp un gd cn cs L a ccd cl outer).under (.builtin "type.__call__" ⟨.ref C :: rest, []⟩) = ktrTop (dp + 1) (un + 1) gd cn cs L a ccd cl outer := by
  have h1 : (Code.builtin "type.__call__" ⟨.ref C :: rest, []⟩).weight = 1 := by rfl
  have h2 : (Code.builtin "type.__call__" ⟨.ref C :: rest, []⟩).envs = [] := by rfl
  have h3 : (Code.builtin "type.__call__" ⟨.ref C :: rest, []⟩).guards = [] := by rfl
  have h4 : (Code.builtin "type.__call__" ⟨.ref C :: rest, []⟩).cUnits = 1 := by rfl
  unfold Around.under
  rw [h1, h2, h3, h4]
  rfl

/-- the two own exceptions: what the walk reads of a class -/
def ExcC (K : Frag) (C : Addr) : Prop :=
  ∃ (nm q : Str) (N : Addr) (bs bm : List Value) (sn : List Str) (sub : List Value) (ab : Bool) (col : Option Bool) (dd : Option Addr) (k0 k1 k2 k3 k5 : Option Value) (cdC : ClassData),
    List.lookup C K = some (excClassObj nm q C N bs bm true sn sub ab col dd k0 k1 k2 k3 k5 "Exception.__new__") ∧ BmOk bm ∧
    findIn K (.ref C) "__init__" = some (some (.ref 35)) ∧ typeIn K (.ref 35) = some (.type "function") ∧
    findIn K (.ref C) "__setattr__" = some (some (.builtin "object.__setattr__")) ∧ clsIn K C = some cdC ∧ Lets cdC.mro ∧
    findIn K (.ref C) "code" = some none ∧ findIn K (.ref C) "at" = some none ∧ cdC.hasDict = true

/-- what a raise asks of the value that is raised -/
def RaisableX (C : Addr) (E : Value → Shared → Prop) (v : Value) (s₁ : Shared) : Prop :=
  ∃ e t od nm q N bs bm hdct sn sub ab col dd k0 k1 k2 k3 k5, BmOk bm ∧ v = .ref e ∧ s₁.heap.get? C = some (excClassObj nm q C N bs bm hdct sn sub ab col dd k0 k1 k2 k3 k5 "Exception.__new__") ∧
      s₁.heap.get? e = some ⟨.ref C, od, .fields (excFields t), #[]⟩ ∧ E (.ref e) s₁

theorem raise_call (w : World) (C : Addr) (v1 v2 : Value) (hC : ExcC (Mine.K w.params) C)
    {mean : ExcName → Option Value} {mg mb : Str → Option Value} {dp un : Nat} {gd : Option (List Code)} {cn : Str} {cs : Scope} {a : Addr} {ccd : Value} {cl : List (Str × Addr)} {outer : List Env} {A₀ : Around} {base h₀ : Heap} {L : Addr} {m : Str → Option Value} {news : List (Addr × Obj)} {s : Shared} {E E' : Value → Shared → Prop}
    (B : Below A₀ base outer h₀) (F : Fr h₀ L s.heap m) (X : (Mine.K w.params).In h₀) (N : News h₀ L s.heap news) (T : Top Mine.view (looseW Mine.view []) mean mg mb h₀) (hk : cs.kind = .function)
    (hd : dp + 22 < recursionLimit) (hu : un + 210 < cLine)
    (hret : ∀ h' tk' e t d, Fr h₀ L h' m → News h₀ L h' ((e, ⟨.ref C, some d, .fields (excFields t), #[]⟩) :: (t, { cls := .type "tuple", data := .seq [v1, v2].toArray }) :: news) → (∀ p ∈ news, p.1 ≠ e) → (∀ p ∈ news, p.1 ≠ t) → E (.ref e) { s with heap := h', toks := tk' }) :
    wpAny (model PySem.Challenge.rw_sa0222_01.row.prog w) (ktrTop dp un gd cn cs L a ccd cl outer) (call (.ref C) [v1, v2]) (RaisableX C E) E' s := by
  obtain ⟨nm, q, NN, bs, bm, sn, sub, ab, col, dd, k0, k1, k2, k3, k5, cdC, c1, c2, c3, c4, c5, c6, c7, c8, c9, c10⟩ := hC
  obtain ⟨hh, g, dr, tk, os⟩ := s
  have Xs := X.keeps F.keep
  have hCs := Xs _ _ c1
  refine exc_call (K := Mine.K w.params) Xs c2 hCs c3 c4 ?_ (Nat.le_of_ble_eq_true rfl)
  rw [under_make]
  have N1 := N.push F { cls := .type "tuple", data := .seq [v1, v2].toArray }
  have F1 : Fr h₀ L (hh.push { cls := .type "tuple", data := .seq [v1, v2].toArray }) m := F.push _
  have N2 := N1.push F1 (ExcObj C hh.objs.size)
  have F2 := F1.push (ExcObj C hh.objs.size)
  have lt : ∀ p ∈ news, p.1 < hh.objs.size := fun p hp => Heap.lt_size (N p hp).1
  rw [Heap.size_push] at N2
  refine init_ok w C cdC (hh.objs.size + 1) (excFields hh.objs.size) v1 v2 mean mg mb (dp + 1) (un + 1) gd cn cs a ccd cl outer A₀ base h₀ L m _ _ _ _ c5 c6 c7 c8 c9 c10 B F2 X N2 ?_ T hk (by omega) (by omega) ?_
  · intro p hp
    rcases List.mem_cons.mp hp with rfl | hp
    · exact Nat.ne_of_lt (Nat.lt_succ_self _)
    · exact Nat.ne_of_lt (Nat.lt_succ_of_lt (lt p hp))
  · intro h' tk' d od F' N'
    refine ⟨rfl, hh.objs.size + 1, hh.objs.size, some d, nm, q, NN, bs, bm, true, sn, sub, ab, col, dd, k0, k1, k2, k3, k5, c2, rfl, (X.keeps F'.keep) _ _ c1, (N' _ (.head _)).1, ?_⟩
    refine hret h' tk' _ hh.objs.size d F' (fun p hp => N' p ?_) (fun p hp => Nat.ne_of_lt (Nat.lt_succ_of_lt (lt p hp))) (fun p hp => Nat.ne_of_lt (lt p hp))
    rcases List.mem_cons.mp hp with rfl | hp
    · exact .head _
    · exact .tail _ (.tail _ hp)

theorem Raise_own {M : Model} {A : Around} {E : Value → Shared → Prop} {s : Shared} {env : Env} {C : Addr} {e : Expr} {pos : Pos} {Q : Flow → Shared → Prop} (hh : A.handled = none)
    (h : wpAny M A (eval e env) (RaisableX C E) E s) : wpAny M A (exec (.Raise (some e) none pos) env) Q E s := by
  show wpAny M A (do standAt pos; raiseStmt env (some (do let v ← eval e env; standAt pos; pure v)) none) Q E s
  refine wpAny_bind (wpAny_standAt ?_)
  unfold raiseStmt
  dsimp only
  refine wpAny_bind (wpAny_bind (wpAny_mono h (fun v s₁ h₁ => wpAny_bind (wpAny_standAt (wpAny_pure ?_))) fun _ _ x => x))
  obtain ⟨e, t, od, nm, q, N, bs, bm, hdct, sn, sub, ab, col, dd, k0, k1, k2, k3, k5, B, rfl, hC, he, hE⟩ := h₁
  have hcB : (Value.ref C :: bm).contains (.type "BaseException") = true := by rw [List.contains_cons, B.base, Bool.or_true]
  obtain ⟨hp, g, d, tk, os⟩ := s₁
  repeat (first | with_reducible refine wpAny_loadPart_at he ?_ | with_reducible refine wpAny_loadPart_at hC ?_ | (with_reducible refine wpAny_isSubtype_exc hC ?_; rw [hcB]) | wp_step)
  exact wpAny_raiseNew_none hh hE

end
section
theorem ExcC.intro {K : Frag} {C : Addr} {nm q : Str} {N : Addr} {bs bm : List Value} {sn : List Str} {sub : List Value} {ab : Bool} {col : Option Bool} {dd : Option Addr} {k0 k1 k2 k3 k5 : Option Value} {cdC : ClassData}
    (c1 : List.lookup C K = some (excClassObj nm q C N bs bm true sn sub ab col dd k0 k1 k2 k3 k5 "Exception.__new__")) (c2 : BmOk bm)
    (c3 : findIn K (.ref C) "__init__" = some (some (.ref 35))) (c4 : typeIn K (.ref 35) = some (.type "function"))
    (c5 : findIn K (.ref C) "__setattr__" = some (some (.builtin "object.__setattr__"))) (c6 : clsIn K C = some cdC) (c7 : Lets cdC.mro)
    (c8 : findIn K (.ref C) "code" = some none) (c9 : findIn K (.ref C) "at" = some none) (c10 : cdC.hasDict = true) : ExcC K C :=
  ⟨_, _, _, _, _, _, _, _, _, _, _, _, _, _, _, _, c1, c2, c3, c4, c5, c6, c7, c8, c9, c10⟩
theorem excC_63' (w : World) : PySem.Challenge.rw_sa0222_01 = PySem.Challenge.rw_sa0222_01 → ExcC (Mine.K w.params) 63 := by
  k_fill
  intro _
  k_dflt (refine' ExcC.intro ?c1 ?c2 ?c3 ?c4 ?c5 ?c6 ?c7 ?c8 ?c9 ?c10; (case c1 => k_is); (case c3 => k_is); (case c4 => k_is); (case c5 => k_is); (case c6 => k_is); (case c8 => k_is); (case c9 => k_is))
  · exact ⟨by decide +kernel, by decide +kernel, by decide +kernel, by decide +kernel⟩
  · exact lets_exc
  · rfl
theorem excC_51' (w : World) : PySem.Challenge.rw_sa0222_01 = PySem.Challenge.rw_sa0222_01 → ExcC (Mine.K w.params) 51 := by
  k_fill
  intro _
  k_dflt (refine' ExcC.intro ?c1 ?c2 ?c3 ?c4 ?c5 ?c6 ?c7 ?c8 ?c9 ?c10; (case c1 => k_is); (case c3 => k_is); (case c4 => k_is); (case c5 => k_is); (case c6 => k_is); (case c8 => k_is); (case c9 => k_is))
  · exact ⟨by decide +kernel, by decide +kernel, by decide +kernel, by decide +kernel⟩
  · exact lets_exc
  · rfl
theorem excC_63 (w : World) : ExcC (Mine.K w.params) 63 := excC_63' w rfl
theorem excC_51 (w : World) : ExcC (Mine.K w.params) 51 := excC_51' w rfl

end
local macro_rules | `(tactic| walk_at "mine enterC") => `(tactic| (refine' code_defC ?k1 ?k2 ?k3 ?k4 ?k5 ?kA ?kF ?kK ?k6 ?k7 ?k8 ?k9 ?kB ?kD ?_ ?c2 ?c3 ?c4; (case kA => exact rfl); (case kF => exact rfl); (case kK => assumption); (case k1 => k_asm); (case k2 => k_asm); (case k3 => k_asm); (case k4 => k_asm); (case k5 => k_asm); (case k6 => k_is); (case k7 => k_is); (case k8 => ktr_room); (case k9 => exact BindsTo.of_eq rfl); (case kB => exact rfl); (case kD => decide +kernel); (case c2 => exact rfl); (case c3 => exact rfl); (case c4 => exact rfl); k_whole; intro g' L' h' tk' cells' FG' F' N' Y' B' X' T' l1; (try k_lt l1); k_cells Y'; (try simp only [List.cons_append, List.nil_append] at N'); (try dsimp only); (try k_lift B'); (try k_fold)))
local macro_rules | `(tactic| k_all) => `(tactic| walk_at "mine k_all")
section
theorem int_eq {x y : Int} {t : Tok} (h : x = y) : ∃ t', Value.int x t = Value.int y t' := ⟨t, by rw [h]⟩

theorem w2 : True := by
  k_with_none
  (k_with "call type:bytes" => ((k_here; (with_reducible show wpAny _ _ (call (Value.type "bytes") [Value.ref _]) _ _ _); k_dflt (refine' Mine.call_bytes_tuple (by k_asm) (by k_asm) (by rfl) (by exact News.isTup (by k_asm) (by k_mem)) (by kba_listInts) ?_ (by kba_size) ?_; rotate_left); intro _ _ _ F' N' kbaIn)))
  (k_with "exec Raise some none" => ((k_here; (with_reducible show wpAny _ _ (exec (Stmt.Raise (some (Expr.Call (Expr.Name ("BadSig" : Str) _) _ _ _)) none _) _) _ _ _); k_dflt (refine Raise_own (C := 63) rfl ?_))))
  (k_with "exec Raise some none" => ((k_here; (with_reducible show wpAny _ _ (exec (Stmt.Raise (some (Expr.Call (Expr.Name ("BadImage" : Str) _) _ _ _)) none _) _) _ _ _); k_dflt (refine Raise_own (C := 51) rfl ?_))))
  (k_with "call ref" => ((k_here; (with_reducible show wpAny _ _ (call (Value.ref _) [_, _]) (RaisableX _ _) _ _); k_dflt (refine' raise_call _ _ _ _ (by first | exact excC_63 _ | exact excC_51 _) (by k_asm) (by k_asm) (by k_asm) (by k_asm) (by k_asm) (by exact rfl) (by ktr_room) (by ktr_units) ?_; k_whole; intro h' tk' e' t' d' F' N' hne' hnt'; (try dsimp only)))))
  (k_with "leaving ref" => ((k_here; first
  | (refine' leave_mine (by assumption) (by assumption) (by assumption) (by assumption) (by assumption) ?_; k_whole; intro h' R' U'; (try dsimp only))
  | (refine' leave_onS (by assumption) (by assumption) (by assumption) (by assumption) ?_; k_whole; intro h' R' RK' U'; (try dsimp only)))))
  (k_with "binaryOp Pow int int" => ((k_here; dsimp only; walk_at "binaryOp Pow int int")))
  (k_with "mine k_all" => (first | assumption | exact ne_lt (by assumption) | exact ne_succ (by assumption) | exact ne_lt (allLt_mem (And.right (by assumption))) | exact ne_lt (allLt_mem (And.right (And.right (by assumption))))))
  trivial
theorem uint_width_ok (w : World) (n : Int) (t : Tok) (news : List (Addr × Obj)) : Call w 30 177 [.int n t] news
    (fun v nw => nw = news ∧ (∃ t, v = .int (if n < 128 then 1 else if n < 16384 then 2 else 4) t) ∧ 0 ≤ n ∧ n < 536870912)
    (fun C nw => nw = news ∧ C = 63 ∧ ¬ (0 ≤ n ∧ n < 536870912)) := by
  unfold Call
  k_fill
  intro mean mg mb dp un gd cn cs a ccd outer A₀ base h₀ L m s Q E B F X N T hk hd hu hret hexc
  refine wpAny_call ?_
  k_dflt cell_enter
  k_steps
  all_goals first
    | refine hret _ _ _ _ ⟨rfl, int_eq ?_, ?_, ?_⟩ (by k_asm) (by k_asm)
    | refine hexc _ _ _ _ _ _ _ _ ⟨rfl, rfl, ?_⟩ (by assumption) (by assumption) (by assumption)
  all_goals clear hret hexc
  all_goals simp only [decide_eq_true_eq, decide_eq_false_iff_not] at *
  all_goals (try (repeat' split) <;> omega)
theorem int_width_ok (w : World) (n : Int) (t : Tok) (news : List (Addr × Obj)) : Call w 30 212 [.int n t] news
    (fun v nw => nw = news ∧ (∃ t, v = .int (if -64 ≤ n ∧ n < 64 then 1 else if -8192 ≤ n ∧ n < 8192 then 2 else 4) t) ∧ -268435456 ≤ n ∧ n < 268435456)
    (fun C nw => nw = news ∧ C = 63 ∧ ¬ (-268435456 ≤ n ∧ n < 268435456)) := by
  unfold Call
  k_fill
  intro mean mg mb dp un gd cn cs a ccd outer A₀ base h₀ L m s Q E B F X N T hk hd hu hret hexc
  refine wpAny_call ?_
  k_dflt cell_enter
  k_steps
  all_goals first
    | refine hret _ _ _ _ ⟨rfl, int_eq ?_, ?_, ?_⟩ (by k_asm) (by k_asm)
    | refine hexc _ _ _ _ _ _ _ _ ⟨rfl, rfl, ?_⟩ (by assumption) (by assumption) (by assumption)
  all_goals clear hret hexc
  all_goals simp only [decide_eq_true_eq, decide_eq_false_iff_not] at *
  all_goals (try (repeat' split) <;> omega)

end
section
theorem bitOr_nat (x y : Nat) : Builtin.bitOr (x : Int) (y : Int) = ((x ||| y : Nat) : Int) := by
  unfold Builtin.bitOr Builtin.bitAnd
  have h1 : decide (0 ≤ Builtin.bitNot (x : Int)) = false := by unfold Builtin.bitNot; simp only [decide_eq_false_iff_not]; omega
  have h2 : decide (0 ≤ Builtin.bitNot (y : Int)) = false := by unfold Builtin.bitNot; simp only [decide_eq_false_iff_not]; omega
  rw [h1, h2]
  have e : ∀ z : Nat, (Builtin.bitNot (Builtin.bitNot (z : Int))).toNat = z := fun z => by unfold Builtin.bitNot; omega
  dsimp only
  rw [e, e]
  unfold Builtin.bitNot
  omega
theorem bitOr_add (a b : Int) (k : Nat) (ha : 0 ≤ a) (hb : 0 ≤ b) (hlt : b < 2 ^ k) : Builtin.bitOr (a * 2 ^ k) b = a * 2 ^ k + b := by
  obtain ⟨x, rfl⟩ := Int.eq_ofNat_of_zero_le ha
  obtain ⟨y, rfl⟩ := Int.eq_ofNat_of_zero_le hb
  have hy : y < 2 ^ k := by
    have : ((y : Nat) : Int) < ((2 ^ k : Nat) : Int) := by rw [Int.natCast_pow]; exact hlt
    exact Int.ofNat_lt.mp this
  have e : (x : Int) * 2 ^ k = ((2 ^ k * x : Nat) : Int) := by rw [Int.natCast_mul, Int.natCast_pow, Int.mul_comm]; rfl
  rw [e, bitOr_nat, ← Nat.two_pow_add_eq_or_of_lt hy, Int.natCast_add]
theorem bitOr_128 (m : Int) (h0 : 0 ≤ m) (h1 : m < 128) : Builtin.bitOr 128 m = 128 + m := bitOr_add 1 m 7 (by decide) h0 h1
theorem bitOr_192 (m : Int) (h0 : 0 ≤ m) (h1 : m < 64) : Builtin.bitOr 192 m = 192 + m := bitOr_add 3 m 6 (by decide) h0 h1
theorem bitOr_zero (m : Int) (h0 : 0 ≤ m) : Builtin.bitOr 0 m = m := by
  obtain ⟨y, rfl⟩ := Int.eq_ofNat_of_zero_le h0
  rw [show (0 : Int) = ((0 : Nat) : Int) from rfl, bitOr_nat, Nat.zero_or]
theorem bitOr_256 (a b : Int) (ha : 0 ≤ a) (hb : 0 ≤ b) (h1 : b < 256) : Builtin.bitOr (a * 256) b = a * 256 + b := bitOr_add a b 8 ha hb h1
theorem bitOr_two (a : Int) (ha : 0 ≤ a) : Builtin.bitOr (2 * a) 1 = 2 * a + 1 := by
  have := bitOr_add a 1 1 ha (by decide) (by decide)
  rwa [show a * 2 ^ 1 = 2 * a from by rw [Int.mul_comm]; rfl] at this
theorem fdiv_pow (n : Int) (k : Nat) : n.fdiv (2 ^ k) = n / 2 ^ k := Int.fdiv_eq_ediv_of_nonneg _ (Int.le_of_lt (kbt_pos k))

/-- the octets of a form of that width -/
def spread (n k : Int) : List Int :=
  if k = 1 then [n] else if k = 2 then [128 + n / 256, n % 256] else [192 + n / 16777216, n / 65536 % 256, n / 256 % 256, n % 256]
theorem bytes_eq {x y : List Int} {t : Tok} (h : x = y) : ∃ t', Value.bytes (byteArr x) t = Value.bytes (byteArr y) t' := ⟨t, by rw [h]⟩
theorem fd8 (n : Int) : n.fdiv (2 ^ Int.toNat 8) = n / 256 := fdiv_pow n 8
theorem fd16 (n : Int) : n.fdiv (2 ^ Int.toNat 16) = n / 65536 := fdiv_pow n 16
theorem fd24 (n : Int) : n.fdiv (2 ^ Int.toNat 24) = n / 16777216 := fdiv_pow n 24
theorem spread_1 (n : Int) : [n] = spread n 1 := rfl
theorem spread_2 (n : Int) (h0 : 0 ≤ n) (h1 : n < 16384) : [Builtin.bitOr 128 (n.fdiv (2 ^ Int.toNat 8)), Builtin.bitAnd n 255] = spread n 2 := by
  rw [fd8, bitOr_128 _ (by omega) (by omega), bitAnd_m8]; rfl
theorem spread_4 (n : Int) (h0 : 0 ≤ n) (h1 : n < 536870912) : [Builtin.bitOr 192 (n.fdiv (2 ^ Int.toNat 24)), Builtin.bitAnd (n.fdiv (2 ^ Int.toNat 16)) 255, Builtin.bitAnd (n.fdiv (2 ^ Int.toNat 8)) 255, Builtin.bitAnd n 255] = spread n 4 := by
  rw [fd8, fd16, fd24, bitOr_192 _ (by omega) (by omega), bitAnd_m8, bitAnd_m8, bitAnd_m8]; rfl
/-- that width holds the number -/
def Holds1 (n k : Int) : Prop := (k = 1 ∧ 0 ≤ n ∧ n < 128) ∨ (k = 2 ∧ 0 ≤ n ∧ n < 16384) ∨ (k = 4 ∧ 0 ≤ n ∧ n < 536870912)
theorem spread_in {n k : Int} (h : Holds1 n k) : ∀ x ∈ spread n k, 0 ≤ x ∧ x < 256 := by
  rcases h with ⟨rfl, h0, h1⟩ | ⟨rfl, h0, h1⟩ | ⟨rfl, h0, h1⟩ <;> intro x hx <;> simp [spread] at hx <;> omega

theorem w3 : True := by
  k_with_none
  (k_with "call type:bytes" => ((k_here; (with_reducible show wpAny _ _ (call (Value.type "bytes") [Value.ref _]) _ _ _); k_dflt (refine' Mine.call_bytes_tuple (by k_asm) (by k_asm) (by rfl) (by exact News.isTup (by k_asm) (by k_mem)) (by kba_listInts) ?_ (by kba_size) ?_; rotate_left); intro _ _ _ F' N' kbaIn)))
  (k_with "exec Raise some none" => ((k_here; (with_reducible show wpAny _ _ (exec (Stmt.Raise (some (Expr.Call (Expr.Name ("BadSig" : Str) _) _ _ _)) none _) _) _ _ _); k_dflt (refine Raise_own (C := 63) rfl ?_))))
  (k_with "exec Raise some none" => ((k_here; (with_reducible show wpAny _ _ (exec (Stmt.Raise (some (Expr.Call (Expr.Name ("BadImage" : Str) _) _ _ _)) none _) _) _ _ _); k_dflt (refine Raise_own (C := 51) rfl ?_))))
  (k_with "call ref" => ((k_here; (with_reducible show wpAny _ _ (call (Value.ref _) [_, _]) (RaisableX _ _) _ _); k_dflt (refine' raise_call _ _ _ _ (by first | exact excC_63 _ | exact excC_51 _) (by k_asm) (by k_asm) (by k_asm) (by k_asm) (by k_asm) (by exact rfl) (by ktr_room) (by ktr_units) ?_; k_whole; intro h' tk' e' t' d' F' N' hne' hnt'; (try dsimp only)))))
  (k_with "leaving ref" => ((k_here; first
  | (refine' leave_mine (by assumption) (by assumption) (by assumption) (by assumption) (by assumption) ?_; k_whole; intro h' R' U'; (try dsimp only))
  | (refine' leave_onS (by assumption) (by assumption) (by assumption) (by assumption) ?_; k_whole; intro h' R' RK' U'; (try dsimp only)))))
  (k_with "binaryOp Pow int int" => ((k_here; dsimp only; walk_at "binaryOp Pow int int")))
  (k_with "mine k_all" => (first | assumption | exact ne_lt (by assumption) | exact ne_succ (by assumption) | exact ne_lt (allLt_mem (And.right (by assumption))) | exact ne_lt (allLt_mem (And.right (And.right (by assumption))))))
  trivial
theorem width_bits_ok (w : World) (k : Int) (t : Tok) : Pure w 10 219 [.int k t] (fun v => ∃ t, v = .int (if k = 1 then 7 else if k = 2 then 14 else 29) t) := by
  unfold Pure
  k_fill
  intro mean mg mb dp un gd cn cs a ccd cl outer A₀ base h₀ L m news s Q E B F X N T hk hd hu hret
  refine wpAny_call ?_
  k_dflt cell_enter
  k_steps
  all_goals refine hret _ _ _ (int_eq ?_) (by k_asm) (by k_asm)
  all_goals clear hret
  all_goals (simp only [decide_eq_true_eq, decide_eq_false_iff_not] at *)
  all_goals (repeat' split) <;> omega
theorem spread_wide_ok (w : World) (n k : Int) (t t' : Tok) (h : Holds1 n k) :
    Pure w 10 170 [.int n t, .int k t'] (fun v => ∃ t, v = .bytes (byteArr (spread n k)) t) := by
  unfold Pure
  k_fill
  intro mean mg mb dp un gd cn cs a ccd cl outer A₀ base h₀ L m news s Q E B F X N T hk hd hu hret
  refine wpAny_call ?_
  rcases h with ⟨rfl, h0, h1⟩ | ⟨rfl, h0, h1⟩ | ⟨rfl, h0, h1⟩
  all_goals k_dflt cell_enter
  all_goals k_steps
  all_goals first
    | (refine hret _ _ _ (bytes_eq ?_) (by k_asm) (cb_drop (by assumption) fun p hp => .tail _ hp); clear hret)
    | clear hret
  · exact spread_1 n
  · exact spread_in (.inl ⟨rfl, h0, h1⟩)
  · exact spread_2 n h0 h1
  · rw [spread_2 n h0 h1]; exact spread_in (.inr (.inl ⟨rfl, h0, h1⟩))
  · exact spread_4 n h0 h1
  · rw [spread_4 n h0 h1]; exact spread_in (.inr (.inr ⟨rfl, h0, h1⟩))

end
section
theorem holds_uw {n : Int} (h : 0 ≤ n ∧ n < 536870912) : Holds1 n (if n < 128 then 1 else if n < 16384 then 2 else 4) := by
  unfold Holds1; (repeat' split) <;> omega
/-- the width of a signed number -/
abbrev iw (n : Int) : Int := if -64 ≤ n ∧ n < 64 then 1 else if -8192 ≤ n ∧ n < 8192 then 2 else 4
abbrev wb (k : Int) : Int := if k = 1 then 7 else if k = 2 then 14 else 29
/-- the width of a plain number -/
abbrev uw (n : Int) : Int := if n < 128 then 1 else if n < 16384 then 2 else 4
/-- a signed number's digits turned by one -/
def rot (n : Int) : Int := 2 * (n % (if -64 ≤ n ∧ n < 64 then 64 else if -8192 ≤ n ∧ n < 8192 then 8192 else 268435456)) + (if n < 0 then 1 else 0)
theorem mask_even (n : Int) (k : Nat) : Builtin.bitAnd (n * 2 ^ Int.toNat 1) (1 * 2 ^ (k + 1) - 1) = 2 * (n % 2 ^ k) := by
  have e : (2 : Int) ^ (k + 1) = 2 * 2 ^ k := by rw [Int.pow_succ, Int.mul_comm]
  rw [Int.one_mul, kbt_mask, show Int.toNat 1 = 1 from rfl, show n * 2 ^ 1 = 2 * n from by omega, e, Int.mul_emod_mul_of_pos _ _ (by decide)]
theorem turned_mask (n : Int) : Builtin.bitAnd (n * 2 ^ Int.toNat 1) (1 * 2 ^ (wb (iw n)).toNat - 1) =
    2 * (n % (if -64 ≤ n ∧ n < 64 then 64 else if -8192 ≤ n ∧ n < 8192 then 8192 else 268435456)) := by
  by_cases h1 : -64 ≤ n ∧ n < 64
  · rw [show wb (iw n) = 7 from by simp [wb, iw, h1], if_pos h1]; exact mask_even n 6
  · by_cases h2 : -8192 ≤ n ∧ n < 8192
    · rw [show wb (iw n) = 14 from by simp [wb, iw, h1, h2], if_neg h1, if_pos h2]; exact mask_even n 13
    · rw [show wb (iw n) = 29 from by simp [wb, iw, h1, h2], if_neg h1, if_neg h2]; exact mask_even n 28
theorem turned_neg (n : Int) (h : n < 0) : Builtin.bitOr (Builtin.bitAnd (n * 2 ^ Int.toNat 1) (1 * 2 ^ (wb (iw n)).toNat - 1)) 1 = rot n := by
  rw [turned_mask, bitOr_two _ (Int.emod_nonneg _ (by (repeat' split) <;> decide)), rot, if_pos h]
theorem turned_pos (n : Int) (h : ¬ n < 0) : Builtin.bitAnd (n * 2 ^ Int.toNat 1) (1 * 2 ^ (wb (iw n)).toNat - 1) = rot n := by
  rw [turned_mask, rot, if_neg h, Int.add_zero]
theorem holds_iw {n : Int} (h : -268435456 ≤ n ∧ n < 268435456) : Holds1 (rot n) (iw n) := by
  unfold Holds1 rot iw; (repeat' split) <;> omega

theorem w4 : True := by
  k_with_none
  (k_with "call type:bytes" => ((k_here; (with_reducible show wpAny _ _ (call (Value.type "bytes") [Value.ref _]) _ _ _); k_dflt (refine' Mine.call_bytes_tuple (by k_asm) (by k_asm) (by rfl) (by exact News.isTup (by k_asm) (by k_mem)) (by kba_listInts) ?_ (by kba_size) ?_; rotate_left); intro _ _ _ F' N' kbaIn)))
  (k_with "exec Raise some none" => ((k_here; (with_reducible show wpAny _ _ (exec (Stmt.Raise (some (Expr.Call (Expr.Name ("BadSig" : Str) _) _ _ _)) none _) _) _ _ _); k_dflt (refine Raise_own (C := 63) rfl ?_))))
  (k_with "exec Raise some none" => ((k_here; (with_reducible show wpAny _ _ (exec (Stmt.Raise (some (Expr.Call (Expr.Name ("BadImage" : Str) _) _ _ _)) none _) _) _ _ _); k_dflt (refine Raise_own (C := 51) rfl ?_))))
  (k_with "call ref" => ((k_here; (with_reducible show wpAny _ _ (call (Value.ref _) [_, _]) (RaisableX _ _) _ _); k_dflt (refine' raise_call _ _ _ _ (by first | exact excC_63 _ | exact excC_51 _) (by k_asm) (by k_asm) (by k_asm) (by k_asm) (by k_asm) (by exact rfl) (by ktr_room) (by ktr_units) ?_; k_whole; intro h' tk' e' t' d' F' N' hne' hnt'; (try dsimp only)))))
  (k_with "leaving ref" => ((k_here; first
  | (refine' leave_mine (by assumption) (by assumption) (by assumption) (by assumption) (by assumption) ?_; k_whole; intro h' R' U'; (try dsimp only))
  | (refine' leave_onS (by assumption) (by assumption) (by assumption) (by assumption) ?_; k_whole; intro h' R' RK' U'; (try dsimp only)))))
  (k_with "binaryOp Pow int int" => ((k_here; dsimp only; walk_at "binaryOp Pow int int")))
  (k_with "mine k_all" => (first | assumption | exact ne_lt (by assumption) | exact ne_succ (by assumption) | exact ne_lt (allLt_mem (And.right (by assumption))) | exact ne_lt (allLt_mem (And.right (And.right (by assumption))))))
  (k_with "call ref" => ((k_here; (with_reducible show wpAny _ _ (call (Value.ref 177) [Value.int _ _]) _ _ _); k_dflt ((refine' Call.useR (by k_asm) (by k_asm) (by k_asm) (by k_asm) (by k_asm) (by first | exact rfl | assumption) (by ktr_room) (by ktr_units) (uint_width_ok _ _ _ _) ?_ ?_; rotate_left; (intro C' e' t' xs' h' tk' nw' g' Z' FG' R' U'; obtain ⟨e0', e1', hf'⟩ := Z'; subst e0'; subst e1'; (try dsimp only)); rotate_right; (intro v' h' tk' nw' R' F' N'; obtain ⟨e0', ⟨t', e'⟩, hf'⟩ := R'; subst e0'; subst e'; (try dsimp only); (try k_fold)))))))
  (k_with "call ref" => ((k_here; (with_reducible show wpAny _ _ (call (Value.ref 212) [Value.int _ _]) _ _ _); k_dflt ((refine' Call.useR (by k_asm) (by k_asm) (by k_asm) (by k_asm) (by k_asm) (by first | exact rfl | assumption) (by ktr_room) (by ktr_units) (int_width_ok _ _ _ _) ?_ ?_; rotate_left; (intro C' e' t' xs' h' tk' nw' g' Z' FG' R' U'; obtain ⟨e0', e1', hf'⟩ := Z'; subst e0'; subst e1'; (try dsimp only)); rotate_right; (intro v' h' tk' nw' R' F' N'; obtain ⟨e0', ⟨t', e'⟩, hf'⟩ := R'; subst e0'; subst e'; (try dsimp only); (try k_fold)))))))
  (k_with "call ref" => ((k_here; (with_reducible show wpAny _ _ (call (Value.ref 219) [Value.int _ _]) _ _ _); k_dflt ((refine Pure.useR (by k_asm) (by k_asm) (by k_asm) (by k_asm) (by k_asm) (by first | exact rfl | assumption) (by ktr_room) (by ktr_units) (width_bits_ok _ _ _) ?_; k_whole; intro v' h' tk' R' F' N'; first | (obtain ⟨t', e'⟩ := R'; subst e') | (obtain ⟨z', hz', t', e'⟩ := R'; subst e') | subst R'; (try dsimp only); (try k_fold))))))
  (k_with "eval Call" => ((k_here; (with_reducible show wpAny _ _ (eval (Expr.Call (Expr.Name ("uint_width" : Str) _) _ _ _) _) _ _ _); k_dflt (refine Call_Name (by rfl) ?_))))
  (k_with "call ref" => ((k_here; (with_reducible show wpAny _ _ (call (Value.ref 170) [Value.int _ _, Value.int _ _]) _ _ _); k_dflt (first | (refine Pure.useR (by k_asm) (by k_asm) (by k_asm) (by k_asm) (by k_asm) (by first | exact rfl | assumption) (by ktr_room) (by ktr_units) (spread_wide_ok _ _ _ _ _ (by first | exact holds_uw (by assumption) | assumption)) ?_; k_whole; intro v' h' tk' R' F' N'; first | (obtain ⟨t', e'⟩ := R'; subst e') | (obtain ⟨z', hz', t', e'⟩ := R'; subst e') | subst R'; (try dsimp only); (try k_fold)) | (rw [turned_neg _ (by assumption)]; (refine Pure.useR (by k_asm) (by k_asm) (by k_asm) (by k_asm) (by k_asm) (by first | exact rfl | assumption) (by ktr_room) (by ktr_units) (spread_wide_ok _ _ _ _ _ (holds_iw (by assumption))) ?_; k_whole; intro v' h' tk' R' F' N'; first | (obtain ⟨t', e'⟩ := R'; subst e') | (obtain ⟨z', hz', t', e'⟩ := R'; subst e') | subst R'; (try dsimp only); (try k_fold))) | (rw [turned_pos _ (by assumption)]; (refine Pure.useR (by k_asm) (by k_asm) (by k_asm) (by k_asm) (by k_asm) (by first | exact rfl | assumption) (by ktr_room) (by ktr_units) (spread_wide_ok _ _ _ _ _ (holds_iw (by assumption))) ?_; k_whole; intro v' h' tk' R' F' N'; first | (obtain ⟨t', e'⟩ := R'; subst e') | (obtain ⟨z', hz', t', e'⟩ := R'; subst e') | subst R'; (try dsimp only); (try k_fold)))))))
  trivial
theorem compress_uint_ok (w : World) (n : Int) (t : Tok) (news : List (Addr × Obj)) : Call w 40 184 [.int n t] news
    (fun v nw => nw = news ∧ (∃ t, v = .bytes (byteArr (spread n (if n < 128 then 1 else if n < 16384 then 2 else 4))) t) ∧ 0 ≤ n ∧ n < 536870912)
    (fun C nw => nw = news ∧ C = 63 ∧ ¬ (0 ≤ n ∧ n < 536870912)) := by
  unfold Call
  k_fill
  intro mean mg mb dp un gd cn cs a ccd outer A₀ base h₀ L m s Q E B F X N T hk hd hu hret hexc
  refine wpAny_call ?_
  k_dflt cell_enter
  k_steps
  · exact hret _ _ _ _ ⟨rfl, ⟨_, rfl⟩, by assumption⟩ (by k_asm) (by k_asm)
  · exact hexc _ _ _ _ _ _ _ _ ⟨rfl, rfl, by assumption⟩ (by assumption) (by assumption) (by assumption)
theorem w5 : True := by
  (k_with "eval Call" => ((k_here; (with_reducible show wpAny _ _ (eval (Expr.Call (Expr.Name ("int_width" : Str) _) _ _ _) _) _ _ _); k_dflt (refine Call_Name (by rfl) ?_))))
  (k_with "eval Call" => ((k_here; (with_reducible show wpAny _ _ (eval (Expr.Call (Expr.Name ("width_bits" : Str) _) _ _ _) _) _ _ _); k_dflt (refine Call_Name (by rfl) ?_))))
  trivial
theorem compress_int_ok (w : World) (n : Int) (t : Tok) (news : List (Addr × Obj)) : Call w 40 226 [.int n t] news
    (fun v nw => nw = news ∧ (∃ t, v = .bytes (byteArr (spread (rot n) (iw n))) t) ∧ -268435456 ≤ n ∧ n < 268435456)
    (fun C nw => nw = news ∧ C = 63 ∧ ¬ (-268435456 ≤ n ∧ n < 268435456)) := by
  unfold Call
  k_fill
  intro mean mg mb dp un gd cn cs a ccd outer A₀ base h₀ L m s Q E B F X N T hk hd hu hret hexc
  refine wpAny_call ?_
  k_dflt cell_enter
  k_steps
  · exact hret _ _ _ _ ⟨rfl, ⟨_, rfl⟩, by assumption⟩ (by k_asm) (by k_asm)
  · exact hret _ _ _ _ ⟨rfl, ⟨_, rfl⟩, by assumption⟩ (by k_asm) (by k_asm)
  · exact hexc _ _ _ _ _ _ _ _ ⟨rfl, rfl, by assumption⟩ (by assumption) (by assumption) (by assumption)

end
section
section
variable {prog : Program} {w : World} {A : Around} {E : Value → Shared → Prop} {s : Shared} {h₀ : Heap} {L : Addr} {m : Str → Option Value} {env : Env}
/-- a source whose iterator is one object of its own: how it is made, what it yields -/
def SrcM (prog : Program) (w : World) (A : Around) (xv : Value) (s₁ : Shared) (n : Nat) (P : Nat → Value → Prop) : Prop :=
  ∃ (StO : Nat → Obj → Prop) (o₀ : Obj), (∀ I, Walks prog w A I [I] [I] n P (fun i h => ∃ o, h.get? I = some o ∧ StO i o)) ∧ StO 0 o₀ ∧ o₀.isFreed = false ∧
    ∀ (Q : Value → Shared → Prop) (E : Value → Shared → Prop), Q (.ref s₁.heap.objs.size) { s₁ with heap := s₁.heap.push o₀ } → wpAny (model prog w) A (pyIter xv) Q E s₁
def CompSrcM (prog : Program) (w : World) (A : Around) (h₀ : Heap) (L : Addr) (m : Str → Option Value) (env : Env) (elt : Expr) (x : Str) (scope : Scope) (cl : List (Str × Addr)) (Fin : Shared → List Value → List (Addr × Obj) → Prop) (xv : Value) (s₁ : Shared) : Prop :=
  ∃ n P news, Fr h₀ L s₁.heap m ∧ News h₀ L s₁.heap news ∧ n ≤ sizeLine ∧ SrcM prog w A xv s₁ n P ∧
    ∀ s₂ : Shared, (∃ h, s₂ = { s₁ with heap := h }) → LCg.CompRest prog w A h₀ L m env elt x scope cl s₂ (fun _ => True) P (Fin s₂) n 0 [] news
theorem ListComp_M {elt iter : Expr} {x : Str} {px : Pos} {scope : Scope} {cl : List (Str × Addr)} {pos : Pos} {Q : Value → Shared → Prop} (_F₀ : Fr h₀ L s.heap m)
    (hclos : closureFor scope env = pure cl) (hcell : ∀ y ∈ scope.names, y.2 ≠ .cell) (hkind : scope.kind = .function)
    (hnames : ∀ y ∈ scope.names, y.2 = .local → scope.names.lookup y.1 = some .local) (hx : scope.names.lookup x = some .local)
    (h : wpAny (model prog w) A (eval iter env) (CompSrcM prog w A h₀ L m env elt x scope cl (fun s₂ => LCg.FinE h₀ L m s₂ Q)) E s)
    (hs : ∀ x, foldedSetIterable iter env x = pure x := by intro _; rfl) :
    wpAny (model prog w) A (eval (.ListComp elt [⟨.Name x px, iter, [], 0⟩] scope pos) env) Q E s := by
  rw [eval_ListComp]
  refine wpAny_comprehension_free (use := none) rfl hs hclos hkind hnames (wpAny_mono h (fun xv s₁ h₁ => ?_) fun _ _ e => e)
  obtain ⟨n, P, news, F, N, hsz, ⟨StO, o₀, W, h0, hfr, hpi⟩, R⟩ := h₁
  refine hpi _ _ ?_
  refine LCg.block_U (W s₁.heap.objs.size) hsz (fun i h st => let ⟨o, e, _⟩ := st; ⟨o, e⟩)
    (fun i h h' o nw st e e' _ _ _ => let ⟨o', q, r⟩ := st; ⟨o, e', by rw [e] at q; cases q; exact r⟩) hcell hkind hx ⟨o₀, Heap.get?_push_size _ hfr, h0⟩ (fun b hb => ?_)
    (F.keeps fun _ _ e => Heap.get?_push_of_some _ e) (N.grown fun _ _ e => Heap.get?_push_of_some _ e) (Nat.ne_of_lt F.ns.lt) (next_is_new F) (fun p hp => Nat.ne_of_lt (Heap.lt_size (N p hp).1)) trivial (R _ ⟨_, rfl⟩) ?_
  · rw [List.mem_singleton.mp hb]
    show s₁.heap.objs.size < (s₁.heap.push _).objs.size
    rw [Heap.size_push]; exact Nat.lt_succ_self _
  · intro D C h tk m' ys news' F' N' o1 hn hC₀ hD₀ hCL hDL hCD offC fin
    refine ⟨m', hn, fun h'' hs'' => fin D h'' tk (F'.change hs'' hCL hC₀) (fun p hp => ?_) o1⟩
    refine ⟨hs''.extBut _ _ ?_ (N' p hp).1, (N' p hp).2⟩
    rcases List.mem_cons.mp hp with rfl | hp
    · exact Ne.symm hCD
    · exact offC p hp

theorem srcM_range {r : Addr} {a b c : Int} {t u v : Tok} {n : Nat} (hh : A.handled = none) (hr : IsRange s.heap r a b c t u v) (hsm : Builtin.Range.small a b c = true) (hn : Builtin.Range.rangeSize a b c = ((n : Nat) : Int)) :
    SrcM prog w A (.ref r) s n (fun i v => i < n ∧ ∃ t, v = .int (a + i * c) t) := by
  refine ⟨fun i o => o = { cls := .type "range_iterator", data := .fields #[rawInt (a + (i : Nat) * c), rawInt ((n : Int) - (i : Nat)), rawInt c] }, _, fun I => ?_, rfl, rfl, fun Q E h => wpAny_pyIter_range hr hsm ?_⟩
  · have W := (Walks.range (prog := prog) (w := w) hh I a c n).bound
    have e : (fun (i : Nat) (h : Heap) => ∃ o, h.get? I = some o ∧ o = { cls := .type "range_iterator", data := .fields #[rawInt (a + (i : Nat) * c), rawInt ((n : Int) - (i : Nat)), rawInt c] }) =
        fun i h => IsRangeIter h I (a + (i : Nat) * c) ((n : Int) - (i : Nat)) c := by
      funext i h
      exact propext ⟨fun ⟨o, e1, e2⟩ => by rw [e2] at e1; exact e1, fun e1 => ⟨_, e1, rfl⟩⟩
    rw [e]; exact W
  · rw [hn]; simpa using h
theorem srcM_bytes {b : Array UInt8} {t : Tok} (hh : A.handled = none) : SrcM prog w A (.bytes b t) s b.size (fun i v => ∃ c t', b[i]? = some c ∧ v = .int (c.toNat : Int) t') := by
  refine ⟨fun i o => o.cls = .type "bytes_iterator" ∧ o.data = .fields #[.bytes b t, .int i 0], _, fun I => ?_, ⟨rfl, rfl⟩, rfl, fun Q E h => KBw.pyIter_bytes h⟩
  have W := KBw.walks (prog := prog) (w := w) hh I b t
  exact W

/-- a comprehension's list, turn by turn, each element by its number -/
theorem rest_map {α : Type} {elt : Expr} {x : Str} {scope : Scope} {cl : List (Str × Addr)} {S : List (Addr × Obj) → Prop} {P : Nat → Value → Prop} {Fin : List Value → List (Addr × Obj) → Prop} {news : List (Addr × Obj)} {n : Nat}
    (Rel : List Value → List α → Prop) (G : α → Value → Prop) (nil : Rel [] []) (snoc : ∀ vs xs a y, Rel vs xs → G a y → Rel (vs ++ [y]) (xs ++ [a])) (f : Nat → α)
    (turn : ∀ i v I oI C oC D m₂ ys h tk (E' : Value → Shared → Prop), i < n → P i v → LCg.NsObj oC m₂ → m₂ x = some v → Fr h₀ L h m → News h₀ L h ((I, oI) :: (C, oC) :: (D, LCg.lst ys) :: news) → LCg.Off3 I C D news → ((@Ne Nat I C) ∧ (@Ne Nat I D) ∧ (@Ne Nat C D)) →
      wpAny (model prog w) A (eval elt (compEnvC scope cl C env)) (LCg.CompEnd h₀ L m { s with heap := h, toks := tk } I oI C oC D (LCg.lst ys) S (fun y news' => news' = news ∧ G (f i) y)) E' { s with heap := h, toks := tk })
    (fin : ∀ ys, Rel ys ((List.range n).map f) → Fin ys news) : LCg.CompRest prog w A h₀ L m env elt x scope cl s S P Fin n 0 [] news := by
  have key : ∀ (j i : Nat) (ys : List Value), i + j = n → Rel ys ((List.range i).map f) → LCg.CompRest prog w A h₀ L m env elt x scope cl s S P Fin j i ys news := by
    intro j
    induction j with
    | zero =>
      intro i ys hi hy
      obtain rfl : i = n := by omega
      exact LCg.CompRest.zero (fin ys hy)
    | succ j ih =>
      intro i ys hi hy
      refine LCg.CompRest.succ ?_
      intro v I oI C oC D m₂ h tk E' hv hC hx F N off ne
      refine wpAny_mono (turn i v I oI C oC D m₂ ys h tk E' (by omega) hv hC hx F N off ne) (fun y s₂ hq => ?_) fun _ _ e => e
      obtain ⟨h', tk', nw, e, F', N', off', hS, hn, hG⟩ := hq
      subst hn
      refine ⟨h', tk', nw, e, F', N', off', hS, ih (i + 1) _ (by omega) ?_⟩
      rw [List.range_succ, List.map_append]
      exact snoc _ _ _ _ hy hG
  exact key n 0 [] (by omega) nil
end

end
section
/-! Plain: texts of the digits 0 and 1, their numbers -/
/-- the text of these digits -/
def T (l : List Nat) : Str := ⟨(l.map fun d => d + 48).toArray⟩
/-- c binary digits of n, the greatest first -/
def bits (n : Int) (c : Nat) : List Nat := (List.range c).map fun i => (n / 2 ^ (c - 1 - i) % 2).toNat
/-- the number of these digits -/
def val (l : List Nat) : Int := l.foldl (fun (a : Int) (d : Nat) => a * 2 + (d : Int)) 0

theorem val_fold (l : List Nat) : ∀ a : Int, l.foldl (fun (a : Int) (d : Nat) => a * 2 + (d : Int)) a = a * 2 ^ l.length + val l := by
  induction l with
  | nil => intro a; simp [val]
  | cons d l ih =>
    intro a
    unfold val
    rw [List.foldl_cons, List.foldl_cons, ih, ih (0 * 2 + (d : Int)), List.length_cons, Int.pow_succ, Int.zero_mul, Int.zero_add, Int.add_mul, Int.mul_assoc, Int.mul_comm 2, Int.add_assoc]
theorem val_append (a b : List Nat) : val (a ++ b) = val a * 2 ^ b.length + val b := by
  show (a ++ b).foldl _ 0 = _
  rw [List.foldl_append, val_fold]
  rfl
theorem val_one (d : Nat) : val [d] = d := by simp [val]
theorem bits_length (n : Int) (c : Nat) : (bits n c).length = c := by simp [bits]
theorem bits_zero (n : Int) : bits n 0 = [] := rfl
theorem two_pow_pos (k : Nat) : (0 : Int) < 2 ^ k := Int.pow_pos (by decide)
theorem bits_succ (n : Int) (c : Nat) : bits n (c + 1) = bits (n / 2) c ++ [(n % 2).toNat] := by
  unfold bits
  rw [List.range_succ, List.map_append]
  congr 1
  · refine List.map_congr_left fun i hi => ?_
    have hi : i < c := by simpa using hi
    rw [show c + 1 - 1 - i = (c - 1 - i) + 1 from by omega, Int.pow_succ, Int.mul_comm, Int.ediv_ediv_of_nonneg (by decide)]
  · simp
theorem mod_two_cast (n : Int) : (((n % 2).toNat : Nat) : Int) = n % 2 := by omega
theorem mod_pow_succ (n : Int) (c : Nat) : n % 2 ^ (c + 1) = n / 2 % 2 ^ c * 2 + n % 2 := by
  have hp := two_pow_pos c
  have e : (2 : Int) ^ (c + 1) = 2 * 2 ^ c := by rw [Int.pow_succ, Int.mul_comm]
  have h1 := Int.emod_add_mul_ediv (n / 2) (2 ^ c)
  have h2 := Int.emod_nonneg (n / 2) (Int.ne_of_gt hp)
  have h3 := Int.emod_lt_of_pos (n / 2) hp
  rw [e]
  refine (kbt_unique (q := n / 2 / 2 ^ c) (by omega) ?_ (by omega) (by omega)).2
  rw [Int.mul_assoc]
  omega
theorem val_bits : ∀ (c : Nat) (n : Int), val (bits n c) = n % 2 ^ c
  | 0, n => by simp [bits, val, Int.emod_one]
  | c + 1, n => by
    rw [bits_succ, val_append, val_bits c, val_one, mod_two_cast, mod_pow_succ]
    rfl
theorem bits_split (a : Nat) : ∀ (b : Nat) (n : Int), bits n (a + b) = bits (n / 2 ^ b) a ++ bits n b
  | 0, n => by simp [bits_zero]
  | b + 1, n => by
    rw [← Nat.add_assoc, bits_succ, bits_split a b, bits_succ, List.append_assoc, Int.pow_succ, Int.mul_comm, Int.ediv_ediv_of_nonneg (by decide)]
theorem bits_mod : ∀ (c : Nat) (n : Int), bits (n % 2 ^ c) c = bits n c
  | 0, _ => rfl
  | c + 1, n => by
    rw [bits_succ, bits_succ, mod_pow_succ]
    have h1 : (n / 2 % 2 ^ c * 2 + n % 2) / 2 = n / 2 % 2 ^ c := by omega
    have h2 : (n / 2 % 2 ^ c * 2 + n % 2) % 2 = n % 2 := by omega
    rw [h1, h2, bits_mod c]
theorem bits_mod_of {c : Nat} {n m : Int} (h : n % 2 ^ c = m % 2 ^ c) : bits n c = bits m c := by rw [← bits_mod c n, h, bits_mod]
theorem bits_bin (n : Int) (c : Nat) : ∀ d ∈ bits n c, d = 0 ∨ d = 1 := by
  intro d hd
  obtain ⟨i, _, rfl⟩ := List.mem_map.mp hd
  omega

theorem T_cps (l : List Nat) : (T l).cps.toList = l.map fun d => d + 48 := by simp [T]
theorem T_length (l : List Nat) : (T l).length = l.length := by simp [T, Str.length]
theorem str_ext {x y : Str} (h : x.cps.toList = y.cps.toList) : x = y := by
  obtain ⟨⟨a⟩⟩ := x
  obtain ⟨⟨b⟩⟩ := y
  exact congrArg (fun l => (⟨⟨l⟩⟩ : Str)) h
theorem T_app (a b : List Nat) : T a ++ T b = T (a ++ b) := by
  refine str_ext ?_
  show ((T a).cps ++ (T b).cps).toList = _
  rw [Array.toList_append, T_cps, T_cps, T_cps, List.map_append]
theorem T_inj {a b : List Nat} (h : T a = T b) : a = b := by
  have e : (T a).cps.toList = (T b).cps.toList := by rw [h]
  rw [T_cps, T_cps] at e
  exact (List.map_inj_right fun x y h => Nat.add_right_cancel h).mp e
theorem glued_fold (ls : List (List Nat)) : ∀ a : List Nat, ((ls.map T).foldl (fun acc p => acc ++ (Str.ofString "").cps ++ p.cps) (T a).cps) = (T (a ++ ls.flatten)).cps := by
  induction ls with
  | nil => intro a; simp
  | cons l ls ih =>
    intro a
    rw [List.map_cons, List.foldl_cons, show (T a).cps ++ (Str.ofString "").cps ++ (T l).cps = (T (a ++ l)).cps from by
      rw [show (Str.ofString "").cps = #[] from by decide +kernel, Array.append_empty]
      exact congrArg Str.cps (T_app a l), ih, List.flatten_cons, List.append_assoc]
theorem join_T (ls : List (List Nat)) : Txt.join (Str.ofString "") (ls.map T) = T ls.flatten := by
  show Builtin.Str.glued _ _ = _
  unfold Builtin.Str.glued
  cases ls with
  | nil => rfl
  | cons l ls =>
    have := glued_fold ls l
    refine congrArg Str.mk ?_
    rw [List.map_cons, List.drop_one, List.tail_cons, List.headD_cons, this, List.flatten_cons]
    rfl
theorem join_ones_T (l : List Nat) : Txt.join (Str.ofString "") (l.map fun d => T [d]) = T l := by
  have := join_T (l.map fun d => [d])
  rw [List.map_map] at this
  rw [show (l.map fun d => T [d]) = l.map (T ∘ fun d => [d]) from rfl, this]
  refine congrArg T ?_
  clear this
  induction l with
  | nil => rfl
  | cons d l ih => rw [List.map_cons, List.flatten_cons, ih]; rfl

theorem slice_T (l : List Nat) (a b : Nat) (hab : a ≤ b) (hb : b ≤ l.length) {i j : Option Int}
    (h : Builtin.Str.strSliceIndices i j 1 (T l).length = Builtin.Str.strSliceIndices (some (a : Int)) (some (b : Int)) 1 (T l).length) : Txt.slice (T l) i j = T ((l.drop a).take (b - a)) := by
  have hb' : b ≤ (T l).length := by rw [T_length]; exact hb
  have key := StrLaws.sliced_plain (T l) hab hb'
  unfold Txt.slice
  rw [h]
  split
  · rename_i hl
    have hl : (Builtin.Str.strSliceIndices (some (a : Int)) (some (b : Int)) 1 (T l).length).length = (T l).length := by simpa using hl
    rw [StrLaws.strSliceIndices_plain hab hb', List.length_map, List.length_range, T_length] at hl
    have : a = 0 ∧ b = l.length := by omega
    rw [this.1, this.2]
    simp
  · refine str_ext ?_
    rw [T_cps, List.map_take, List.map_drop, ← T_cps]
    simpa using key
theorem slice_from (l : List Nat) (a : Nat) (ha : a ≤ l.length) : Txt.slice (T l) (some (a : Int)) none = T (l.drop a) := by
  rw [slice_T l a l.length ha (Nat.le_refl _), List.take_of_length_le (by simp)]
  rw [T_length]
  unfold Builtin.Str.strSliceIndices
  have : ¬ ((l.length : Int) < 0) := by omega
  simp [this]
theorem slice_to (l : List Nat) (b : Nat) (hb : b ≤ l.length) : Txt.slice (T l) none (some (b : Int)) = T (l.take b) := by
  rw [slice_T l 0 b (Nat.zero_le _) hb]
  · simp
  · rw [T_length]
    unfold Builtin.Str.strSliceIndices
    simp only [show ((1 : Int) > 0) = True from by simp, if_true]
    congr 1
theorem slice_mid (l : List Nat) (a b : Nat) (hab : a ≤ b) (hb : b ≤ l.length) : Txt.slice (T l) (some (a : Int)) (some (b : Int)) = T ((l.drop a).take (b - a)) := slice_T l a b hab hb rfl
theorem item_T (l : List Nat) (i : Nat) (hi : i < l.length) : Txt.item (T l) (i : Int) = T [l[i]] := by
  unfold Txt.item Txt.charAt seqIndex?
  rw [T_length]
  have h1 : ¬ ((i : Int) < 0) := by omega
  simp only [h1, if_false]
  rw [if_pos (by simp; omega)]
  simp [T, hi]

end
section
theorem item_01 (k : Int) (h : k = 0 ∨ k = 1) : Txt.item (Str.ofString "01") k = T [k.toNat] := by
  rcases h with rfl | rfl <;> decide +kernel
theorem digit_at (n p : Int) : Txt.item (Str.ofString "01") ((n.fdiv (2 ^ p.toNat)).fmod 2) = T [(n / 2 ^ p.toNat % 2).toNat] := by
  rw [fdiv_pow, Int.fmod_eq_emod_of_nonneg _ (by decide : (0:Int) ≤ 2)]
  exact item_01 _ (by omega)
theorem strs_digits (n : Int) (c : Nat) : (List.range c).map (fun i => T [(n / 2 ^ (c - 1 - i) % 2).toNat]) = (bits n c).map fun d => T [d] := by
  unfold bits; rw [List.map_map]; rfl
theorem sum_ones (l : List Nat) : ((l.map fun d => T [d]).map (·.length)).sum = l.length := by
  induction l with
  | nil => rfl
  | cons d l ih => rw [List.map_cons, List.map_cons, List.sum_cons, ih, T_length]; simp only [List.length_cons, List.length_nil]; omega
theorem str_eq {x y : Str} {t : Tok} (h : x = y) : ∃ t', Value.str x t = Value.str y t' := ⟨t, by rw [h]⟩
theorem range_down_small (c : Int) (h0 : 0 ≤ c) (h1 : c ≤ 32) : Builtin.Range.small (c - 1) (-1) (-1) = true := by
  have key : ∀ k : Nat, k ≤ 32 → Builtin.Range.small ((k : Int) - 1) (-1) (-1) = true := by decide +kernel
  obtain ⟨k, rfl⟩ := Int.eq_ofNat_of_zero_le h0
  exact key k (by omega)
theorem range_down_size (c : Int) (h0 : 0 ≤ c) (h1 : c ≤ 32) : Builtin.Range.rangeSize (c - 1) (-1) (-1) = ((c.toNat : Nat) : Int) := by
  have key : ∀ k : Nat, k ≤ 32 → Builtin.Range.rangeSize ((k : Int) - 1) (-1) (-1) = ((k : Nat) : Int) := by decide +kernel
  obtain ⟨k, rfl⟩ := Int.eq_ofNat_of_zero_le h0
  exact key k (by omega)

theorem w6 : True := by
  k_with_none
  (k_with "call type:bytes" => ((k_here; (with_reducible show wpAny _ _ (call (Value.type "bytes") [Value.ref _]) _ _ _); k_dflt (refine' Mine.call_bytes_tuple (by k_asm) (by k_asm) (by rfl) (by exact News.isTup (by k_asm) (by k_mem)) (by kba_listInts) ?_ (by kba_size) ?_; rotate_left); intro _ _ _ F' N' kbaIn)))
  (k_with "exec Raise some none" => ((k_here; (with_reducible show wpAny _ _ (exec (Stmt.Raise (some (Expr.Call (Expr.Name ("BadSig" : Str) _) _ _ _)) none _) _) _ _ _); k_dflt (refine Raise_own (C := 63) rfl ?_))))
  (k_with "exec Raise some none" => ((k_here; (with_reducible show wpAny _ _ (exec (Stmt.Raise (some (Expr.Call (Expr.Name ("BadImage" : Str) _) _ _ _)) none _) _) _ _ _); k_dflt (refine Raise_own (C := 51) rfl ?_))))
  (k_with "call ref" => ((k_here; (with_reducible show wpAny _ _ (call (Value.ref _) [_, _]) (RaisableX _ _) _ _); k_dflt (refine' raise_call _ _ _ _ (by first | exact excC_63 _ | exact excC_51 _) (by k_asm) (by k_asm) (by k_asm) (by k_asm) (by k_asm) (by exact rfl) (by ktr_room) (by ktr_units) ?_; k_whole; intro h' tk' e' t' d' F' N' hne' hnt'; (try dsimp only)))))
  (k_with "leaving ref" => ((k_here; first
  | (refine' leave_mine (by assumption) (by assumption) (by assumption) (by assumption) (by assumption) ?_; k_whole; intro h' R' U'; (try dsimp only))
  | (refine' leave_onS (by assumption) (by assumption) (by assumption) (by assumption) ?_; k_whole; intro h' R' RK' U'; (try dsimp only)))))
  (k_with "binaryOp Pow int int" => ((k_here; dsimp only; walk_at "binaryOp Pow int int")))
  (k_with "mine k_all" => (first | assumption | exact ne_lt (by assumption) | exact ne_succ (by assumption) | exact ne_lt (allLt_mem (And.right (by assumption))) | exact ne_lt (allLt_mem (And.right (And.right (by assumption))))))
  trivial
section
theorem w7 : True := by
  (k_with "eval ListComp" => ((k_here; k_dflt (refine ListComp_M (by k_asm) (by with_unfolding_all rfl) (by decide) (by rfl) (by decide) (by rfl) ?_))))
  trivial
theorem law_digits_ok (w : World) (n c : Int) (t t' : Tok) (hn : -2147483648 ≤ n ∧ n < 2147483648) (hc : 0 ≤ c ∧ c ≤ 32) : Pure w 20 243 [.int n t, .int c t'] (fun v => ∃ t, v = .str (T (bits n c.toNat)) t) := by
  unfold Pure
  k_fill
  intro mean mg mb dp un gd cn cs a ccd cl outer A₀ base h₀ L m news s Q E B F X N T' hk hd hu hret
  refine wpAny_call ?_
  k_dflt (walk_at "mine enterC")
  k_steps
  refine ⟨c.toNat, _, _, by assumption, by assumption, ?_, srcM_range rfl (by assumption) (range_down_small c hc.1 hc.2) (range_down_size c hc.1 hc.2), ?_⟩
  · rw [PySem.sizeLine_eq]; omega
  rintro s₂ ⟨h₂, rfl⟩
  refine rest_map StrsAre (fun a y => ∃ t, y = .str a t) .nil (fun vs xs a y h1 h2 => by obtain ⟨t, rfl⟩ := h2; exact kct_snoc h1) (fun i => T [(n / 2 ^ (c.toNat - 1 - i) % 2).toNat]) ?_ ?_
  · intro i v I oI C oC D m₂ ys h tk E' hi hP hC hx F' N' off ne
    obtain ⟨hi', t1, rfl⟩ := hP
    k_steps
    refine LCg.CompEnd.intro (by assumption) (by assumption) _ (fun p hp => hp) off trivial ⟨rfl, ?_⟩
    rw [digit_at, show ((c - 1 + (i : Int) * -1).toNat) = c.toNat - 1 - i from by omega]
    exact ⟨_, rfl⟩
  · intro ys hys
    rw [strs_digits] at hys
    k_steps
    refine join_list (ys := (bits n c.toNat).map fun d => T [d]) (News.isList (by assumption) (by k_mem)) hys ?_ ?_
    · rw [sum_ones, List.length_map, bits_length]
      show c.toNat + c.toNat * 0 ≤ 16777216
      omega
    intro t9 k9
    rw [join_ones_T]
    k_steps
    exact hret _ _ _ ⟨_, rfl⟩ (by k_asm) (cb_drop (by assumption) fun p hp => .tail _ (.tail _ hp))
end

theorem w8 : True := by
  k_with_none
  (k_with "call type:bytes" => ((k_here; (with_reducible show wpAny _ _ (call (Value.type "bytes") [Value.ref _]) _ _ _); k_dflt (refine' Mine.call_bytes_tuple (by k_asm) (by k_asm) (by rfl) (by exact News.isTup (by k_asm) (by k_mem)) (by kba_listInts) ?_ (by kba_size) ?_; rotate_left); intro _ _ _ F' N' kbaIn)))
  (k_with "exec Raise some none" => ((k_here; (with_reducible show wpAny _ _ (exec (Stmt.Raise (some (Expr.Call (Expr.Name ("BadSig" : Str) _) _ _ _)) none _) _) _ _ _); k_dflt (refine Raise_own (C := 63) rfl ?_))))
  (k_with "exec Raise some none" => ((k_here; (with_reducible show wpAny _ _ (exec (Stmt.Raise (some (Expr.Call (Expr.Name ("BadImage" : Str) _) _ _ _)) none _) _) _ _ _); k_dflt (refine Raise_own (C := 51) rfl ?_))))
  (k_with "call ref" => ((k_here; (with_reducible show wpAny _ _ (call (Value.ref _) [_, _]) (RaisableX _ _) _ _); k_dflt (refine' raise_call _ _ _ _ (by first | exact excC_63 _ | exact excC_51 _) (by k_asm) (by k_asm) (by k_asm) (by k_asm) (by k_asm) (by exact rfl) (by ktr_room) (by ktr_units) ?_; k_whole; intro h' tk' e' t' d' F' N' hne' hnt'; (try dsimp only)))))
  (k_with "leaving ref" => ((k_here; first
  | (refine' leave_mine (by assumption) (by assumption) (by assumption) (by assumption) (by assumption) ?_; k_whole; intro h' R' U'; (try dsimp only))
  | (refine' leave_onS (by assumption) (by assumption) (by assumption) (by assumption) ?_; k_whole; intro h' R' RK' U'; (try dsimp only)))))
  (k_with "binaryOp Pow int int" => ((k_here; dsimp only; walk_at "binaryOp Pow int int")))
  (k_with "mine k_all" => (first | assumption | exact ne_lt (by assumption) | exact ne_succ (by assumption) | exact ne_lt (allLt_mem (And.right (by assumption))) | exact ne_lt (allLt_mem (And.right (And.right (by assumption))))))
  trivial
end
section
theorem signs_T (l : List Nat) : signs (T l) = l.map fun d => T [d] := by
  unfold signs
  rw [T_cps, List.map_map]
  rfl
theorem find_01 (d : Nat) (h : d = 0 ∨ d = 1) : Txt.find (Str.ofString "01") (T [d]) = (d : Int) := by
  rcases h with rfl | rfl <;> decide +kernel
theorem sign_found {l : List Nat} (hb : ∀ d ∈ l, d = 0 ∨ d = 1) {a : Str} (ha : a ∈ signs (T l)) (h : Txt.find (Str.ofString "01") a = -1) : False := by
  rw [signs_T] at ha
  obtain ⟨d, hd, rfl⟩ := List.mem_map.mp ha
  rw [find_01 d (hb d hd)] at h
  omega
theorem fold_val {l : List Nat} (hb : ∀ d ∈ l, d = 0 ∨ d = 1) : List.foldl (fun (T : Int) (a : Str) => T * 2 + Txt.find (Str.ofString "01") a) 0 (signs (T l)) = val l := by
  rw [signs_T]
  unfold val
  generalize (0 : Int) = z
  induction l generalizing z with
  | nil => rfl
  | cons d l ih =>
    rw [List.map_cons, List.foldl_cons, List.foldl_cons, find_01 d (hb d (.head _)), ih fun x hx => hb x (.tail _ hx)]

theorem w9 : True := by
  k_with_none
  (k_with "call type:bytes" => ((k_here; (with_reducible show wpAny _ _ (call (Value.type "bytes") [Value.ref _]) _ _ _); k_dflt (refine' Mine.call_bytes_tuple (by k_asm) (by k_asm) (by rfl) (by exact News.isTup (by k_asm) (by k_mem)) (by kba_listInts) ?_ (by kba_size) ?_; rotate_left); intro _ _ _ F' N' kbaIn)))
  (k_with "exec Raise some none" => ((k_here; (with_reducible show wpAny _ _ (exec (Stmt.Raise (some (Expr.Call (Expr.Name ("BadSig" : Str) _) _ _ _)) none _) _) _ _ _); k_dflt (refine Raise_own (C := 63) rfl ?_))))
  (k_with "exec Raise some none" => ((k_here; (with_reducible show wpAny _ _ (exec (Stmt.Raise (some (Expr.Call (Expr.Name ("BadImage" : Str) _) _ _ _)) none _) _) _ _ _); k_dflt (refine Raise_own (C := 51) rfl ?_))))
  (k_with "call ref" => ((k_here; (with_reducible show wpAny _ _ (call (Value.ref _) [_, _]) (RaisableX _ _) _ _); k_dflt (refine' raise_call _ _ _ _ (by first | exact excC_63 _ | exact excC_51 _) (by k_asm) (by k_asm) (by k_asm) (by k_asm) (by k_asm) (by exact rfl) (by ktr_room) (by ktr_units) ?_; k_whole; intro h' tk' e' t' d' F' N' hne' hnt'; (try dsimp only)))))
  (k_with "leaving ref" => ((k_here; first
  | (refine' leave_mine (by assumption) (by assumption) (by assumption) (by assumption) (by assumption) ?_; k_whole; intro h' R' U'; (try dsimp only))
  | (refine' leave_onS (by assumption) (by assumption) (by assumption) (by assumption) ?_; k_whole; intro h' R' RK' U'; (try dsimp only)))))
  (k_with "binaryOp Pow int int" => ((k_here; dsimp only; walk_at "binaryOp Pow int int")))
  (k_with "mine k_all" => (first | assumption | exact ne_lt (by assumption) | exact ne_succ (by assumption) | exact ne_lt (allLt_mem (And.right (by assumption))) | exact ne_lt (allLt_mem (And.right (And.right (by assumption))))))
  trivial
theorem law_number_ok (w : World) (l : List Nat) (t : Tok) (hl : l.length ≤ 32) (hb : ∀ d ∈ l, d = 0 ∨ d = 1) : Pure w 20 250 [.str (T l) t] (fun v => ∃ t, v = .int (val l) t) := by
  unfold Pure
  k_fill
  intro mean mg mb dp un gd cn cs a ccd cl outer A₀ base h₀ L m news s Q E B F X N T' hk hd hu hret
  refine wpAny_call ?_
  k_dflt cell_enter
  k_steps
  · exact (sign_found hb (by assumption) (by assumption)).elim
  · exact hret _ _ _ (int_eq (fold_val hb)) (by k_asm) (by k_asm)

end
section
theorem edges_in (i : Nat) : 0 ≤ ([0, 64, 128, 8192, 16384, 268435456, 536870912] : List Int).getD i 0 ∧ ([0, 64, 128, 8192, 16384, 268435456, 536870912] : List Int).getD i 0 ≤ 536870912 := by
  match i with
  | 0 | 1 | 2 | 3 | 4 | 5 | 6 => simp [List.getD]
  | n + 7 => simp [List.getD]
theorem two_pow_le {a b : Nat} (h : a ≤ b) : (2 : Int) ^ a ≤ 2 ^ b := by
  have := Nat.pow_le_pow_right (n := 2) (by decide) h
  have e : ∀ k : Nat, ((2 ^ k : Nat) : Int) = 2 ^ k := fun k => kbt_cast k
  rw [← e, ← e]
  exact Int.ofNat_le.mpr this
theorem value_even (a b c : Int) (ha : 0 ≤ a ∧ a ≤ 536870912) (hb : 0 ≤ b ∧ b ≤ 4) (hc : c = 0 ∨ c = 1) : -1073741824 ≤ (a + b - 2) * (1 - c * 2) ∧ (a + b - 2) * (1 - c * 2) ≤ 1073741824 := by
  rcases hc with rfl | rfl <;> omega
theorem value_odd (y s : Int) (h0 : 0 ≤ s) (h1 : s ≤ 30) : -1073741824 ≤ y.fmod (2 ^ (s + 1).toNat) - 2 ^ s.toNat ∧ y.fmod (2 ^ (s + 1).toNat) - 2 ^ s.toNat ≤ 1073741824 := by
  have e1 : (s + 1).toNat = s.toNat + 1 := by omega
  have e2 : (2 : Int) ^ (s.toNat + 1) = 2 * 2 ^ s.toNat := by rw [Int.pow_succ, Int.mul_comm]
  have h2 : (2 : Int) ^ s.toNat ≤ 2 ^ 30 := two_pow_le (by omega)
  have h3 := two_pow_pos s.toNat
  have h4 := kbt_rest y (s.toNat + 1)
  rw [e1, e2] at *
  rw [e2] at h4
  have : (2 : Int) ^ 30 = 1073741824 := by decide
  omega

theorem w10 : True := by
  k_with_none
  (k_with "call type:bytes" => ((k_here; (with_reducible show wpAny _ _ (call (Value.type "bytes") [Value.ref _]) _ _ _); k_dflt (refine' Mine.call_bytes_tuple (by k_asm) (by k_asm) (by rfl) (by exact News.isTup (by k_asm) (by k_mem)) (by kba_listInts) ?_ (by kba_size) ?_; rotate_left); intro _ _ _ F' N' kbaIn)))
  (k_with "exec Raise some none" => ((k_here; (with_reducible show wpAny _ _ (exec (Stmt.Raise (some (Expr.Call (Expr.Name ("BadSig" : Str) _) _ _ _)) none _) _) _ _ _); k_dflt (refine Raise_own (C := 63) rfl ?_))))
  (k_with "exec Raise some none" => ((k_here; (with_reducible show wpAny _ _ (exec (Stmt.Raise (some (Expr.Call (Expr.Name ("BadImage" : Str) _) _ _ _)) none _) _) _ _ _); k_dflt (refine Raise_own (C := 51) rfl ?_))))
  (k_with "call ref" => ((k_here; (with_reducible show wpAny _ _ (call (Value.ref _) [_, _]) (RaisableX _ _) _ _); k_dflt (refine' raise_call _ _ _ _ (by first | exact excC_63 _ | exact excC_51 _) (by k_asm) (by k_asm) (by k_asm) (by k_asm) (by k_asm) (by exact rfl) (by ktr_room) (by ktr_units) ?_; k_whole; intro h' tk' e' t' d' F' N' hne' hnt'; (try dsimp only)))))
  (k_with "leaving ref" => ((k_here; first
  | (refine' leave_mine (by assumption) (by assumption) (by assumption) (by assumption) (by assumption) ?_; k_whole; intro h' R' U'; (try dsimp only))
  | (refine' leave_onS (by assumption) (by assumption) (by assumption) (by assumption) ?_; k_whole; intro h' R' RK' U'; (try dsimp only)))))
  (k_with "binaryOp Pow int int" => ((k_here; dsimp only; walk_at "binaryOp Pow int int")))
  (k_with "mine k_all" => (first | assumption | exact ne_lt (by assumption) | exact ne_succ (by assumption) | exact ne_lt (allLt_mem (And.right (by assumption))) | exact ne_lt (allLt_mem (And.right (And.right (by assumption))))))
  trivial
theorem law_value_ok (w : World) (n : Int) (t : Tok) (hn : 0 ≤ n ∧ n < 1099511627776) : Pure w 20 257 [.int n t] (fun v => ∃ z, (-1073741824 ≤ z ∧ z ≤ 1073741824) ∧ ∃ t, v = .int z t) := by
  unfold Pure
  k_fill
  intro mean mg mb dp un gd cn cs a ccd cl outer A₀ base h₀ L m news s Q E B F X N T' hk hd hu hret
  refine wpAny_call ?_
  k_dflt cell_enter
  k_steps
  · refine hret _ _ _ ⟨_, value_even _ _ _ (edges_in _) ?_ ?_, _, rfl⟩ (by k_asm) (by k_asm)
    · rw [Int.fmod_eq_emod_of_nonneg _ (by decide : (0:Int) ≤ 5)]; omega
    · rw [Int.fmod_eq_emod_of_nonneg _ (by decide : (0:Int) ≤ 2)]; omega
  · refine hret _ _ _ ⟨_, value_odd _ _ ?_ ?_, _, rfl⟩ (by k_asm) (by k_asm)
    · rw [Int.fmod_eq_emod_of_nonneg _ (by decide : (0:Int) ≤ 31)]; omega
    · rw [Int.fmod_eq_emod_of_nonneg _ (by decide : (0:Int) ≤ 31)]; omega

end
section

theorem w11 : True := by
  k_with_none
  (k_with "call type:bytes" => ((k_here; (with_reducible show wpAny _ _ (call (Value.type "bytes") [Value.ref _]) _ _ _); k_dflt (refine' Mine.call_bytes_tuple (by k_asm) (by k_asm) (by rfl) (by exact News.isTup (by k_asm) (by k_mem)) (by kba_listInts) ?_ (by kba_size) ?_; rotate_left); intro _ _ _ F' N' kbaIn)))
  (k_with "exec Raise some none" => ((k_here; (with_reducible show wpAny _ _ (exec (Stmt.Raise (some (Expr.Call (Expr.Name ("BadSig" : Str) _) _ _ _)) none _) _) _ _ _); k_dflt (refine Raise_own (C := 63) rfl ?_))))
  (k_with "exec Raise some none" => ((k_here; (with_reducible show wpAny _ _ (exec (Stmt.Raise (some (Expr.Call (Expr.Name ("BadImage" : Str) _) _ _ _)) none _) _) _ _ _); k_dflt (refine Raise_own (C := 51) rfl ?_))))
  (k_with "call ref" => ((k_here; (with_reducible show wpAny _ _ (call (Value.ref _) [_, _]) (RaisableX _ _) _ _); k_dflt (refine' raise_call _ _ _ _ (by first | exact excC_63 _ | exact excC_51 _) (by k_asm) (by k_asm) (by k_asm) (by k_asm) (by k_asm) (by exact rfl) (by ktr_room) (by ktr_units) ?_; k_whole; intro h' tk' e' t' d' F' N' hne' hnt'; (try dsimp only)))))
  (k_with "leaving ref" => ((k_here; first
  | (refine' leave_mine (by assumption) (by assumption) (by assumption) (by assumption) (by assumption) ?_; k_whole; intro h' R' U'; (try dsimp only))
  | (refine' leave_onS (by assumption) (by assumption) (by assumption) (by assumption) ?_; k_whole; intro h' R' RK' U'; (try dsimp only)))))
  (k_with "binaryOp Pow int int" => ((k_here; dsimp only; walk_at "binaryOp Pow int int")))
  (k_with "mine k_all" => (first | assumption | exact ne_lt (by assumption) | exact ne_succ (by assumption) | exact ne_lt (allLt_mem (And.right (by assumption))) | exact ne_lt (allLt_mem (And.right (And.right (by assumption))))))
  trivial
theorem law_wild_ok (w : World) (n : Int) (t : Tok) (hn : 0 ≤ n ∧ n < 1099511627776) : Pure w 20 281 [.int n t] (fun v => ∃ b : Array UInt8, b.size ≤ 4 ∧ ∃ t, v = .bytes b t) := by
  unfold Pure
  k_fill
  intro mean mg mb dp un gd cn cs a ccd cl outer A₀ base h₀ L m news s Q E B F X N T' hk hd hu hret
  refine wpAny_call ?_
  k_dflt cell_enter
  k_steps
  all_goals exact hret _ _ _ ⟨_, Nat.le_of_ble_eq_true rfl, _, rfl⟩ (by k_asm) (by first | k_asm | exact cb_drop (by assumption) fun p hp => .tail _ hp)

end
section
theorem ne_lt {news : List (Addr × Obj)} {b : Addr} (h : ∀ p ∈ news, p.1 < b) : ∀ p ∈ news, p.1 ≠ b := fun p hp => Nat.ne_of_lt (h p hp)
theorem ne_succ {news : List (Addr × Obj)} {b : Addr} (h : ∀ p ∈ news, p.1 < b) : ∀ p ∈ news, p.1 ≠ b + 1 := fun p hp => Nat.ne_of_lt (Nat.lt_succ_of_lt (h p hp))
theorem allLt_mem {b : Addr} {news : List (Addr × Obj)} (h : AllLt b news) : ∀ p ∈ news, p.1 < b := by
  induction news with
  | nil => intro p hp; cases hp
  | cons q r ih =>
    intro p hp
    rcases List.mem_cons.mp hp with rfl | hp
    · exact h.1
    · exact ih h.2 p hp

end
section
section
variable {prog : Program} {w : World} {A : Around} {E : Value → Shared → Prop} {s : Shared} {x y : Str} {a b l : List Nat} {t u : Tok} {Q : Value → Shared → Prop}
theorem addT (hx : x = T a) (hy : y = T b) (hsz : (a ++ b).length ≤ 100000) (h : ∀ t' k, Q (.str (T (a ++ b)) t') { s with toks := k }) : wpAny (model prog w) A (binaryOp .Add (.str x t) (.str y u)) Q E s := by
  subst hx hy
  refine add_str (fun t' k => ?_) ?_
  · rw [T_app]; exact h t' k
  · rw [T_length, T_length, PySem.sizeLine_eq]
    rw [List.length_append] at hsz
    omega
theorem lenT (hsz : l.length ≤ 100000) (h : Q (.int (l.length : Int) (s.toks + 1)) { s with toks := s.toks + 1 + 1 }) : wpAny (model prog w) A (call (.builtin "len") [.str (T l) t]) Q E s := by
  have e := T_length l
  refine SBL.len (by rw [e]; omega) ?_
  rw [e]; exact h
theorem itemT {value slice : PySem.Expr} {i : Int} {v : Tok} (h0 : 0 ≤ i) (h1 : i < (l.length : Int)) (h2 : l.length ≤ 100000) (h : Q (.str (Txt.item (T l) i) s.toks) { s with toks := s.toks + 1 })
    (hs : subscripted slice false (.str (T l) t) (.int i v) = operate [.str (T l) t, .int i v] (getItem (.str (T l) t) (.int i v)) := by with_unfolding_all rfl)
    (ht : ∀ r, letTemporaryGo value (.str (T l) t) r = pure () := by intro _; with_unfolding_all rfl) :
    wpAny (model prog w) A (subscriptTail value slice (.str (T l) t) (.int i v)) Q E s := by
  have e := T_length l
  refine item_str (by unfold fitsSsize; simp; omega) (by rw [e]; omega) (by rw [e]; omega) (fun _ => h) hs ht
end
theorem lead_0 : Str.ofString "0" = T [0] := by decide +kernel
theorem lead_10 : Str.ofString "10" = T [1, 0] := by decide +kernel
theorem lead_110 : Str.ofString "110" = T [1, 1, 0] := by decide +kernel
theorem bits_from1 (n : Int) (c : Nat) (h : 1 ≤ c) : Txt.slice (T (bits n c)) (some 1) none = T ((bits n c).drop 1) := slice_from _ 1 (by rw [bits_length]; exact h)
theorem bits_item0 (n : Int) (c : Nat) (h : 1 ≤ c) : Txt.item (T (bits n c)) 0 = T ((bits n c).take 1) := by
  have hl : 0 < (bits n c).length := by rw [bits_length]; exact h
  have := item_T (bits n c) 0 hl
  rw [show ((0 : Nat) : Int) = 0 from rfl] at this
  rw [this]
  refine congrArg T ?_
  generalize bits n c = l at hl
  cases l with
  | nil => cases hl
  | cons d r => simp
theorem slice_at (l : List Nat) (i : Nat) (h : 8 * i + 8 ≤ l.length) : Txt.slice (T l) (some (0 + (i : Int) * 8)) (some (0 + (i : Int) * 8 + 8)) = T ((l.drop (8 * i)).take 8) := by
  have := slice_mid l (8 * i) (8 * i + 8) (by omega) h
  rw [show (0 + (i : Int) * 8) = ((8 * i : Nat) : Int) from by omega, show (((8 * i : Nat) : Int) + 8) = ((8 * i + 8 : Nat) : Int) from by omega, this, show 8 * i + 8 - 8 * i = 8 from by omega]
theorem range8_small (k : Nat) (h : k ≤ 4) (n : Nat) (e : n = 8 * k) : Builtin.Range.small 0 (n : Int) 8 = true := by
  have key : ∀ k : Nat, k ≤ 4 → Builtin.Range.small 0 ((8 * k : Nat) : Int) 8 = true := by decide +kernel
  subst e; exact key k h
theorem range8_size (k : Nat) (h : k ≤ 4) (n : Nat) (e : n = 8 * k) : Builtin.Range.rangeSize 0 (n : Int) 8 = ((k : Nat) : Int) := by
  have key : ∀ k : Nat, k ≤ 4 → Builtin.Range.rangeSize 0 ((8 * k : Nat) : Int) 8 = ((k : Nat) : Int) := by decide +kernel
  subst e; exact key k h
/-- the octets of a text of digits -/
def octs (l : List Nat) (k : Nat) : List Int := (List.range k).map fun i => val ((l.drop (8 * i)).take 8)
theorem val_bin : ∀ (l : List Nat), (∀ d ∈ l, d = 0 ∨ d = 1) → 0 ≤ val l ∧ val l < 2 ^ l.length := by
  intro l
  induction l with
  | nil => intro _; simp [val]
  | cons d l ih =>
    intro h
    have h1 := ih fun x hx => h x (.tail _ hx)
    have e : val (d :: l) = d * 2 ^ l.length + val l := by
      have := val_append [d] l
      rwa [val_one] at this
    have hp := two_pow_pos l.length
    have e2 : (2 : Int) ^ (d :: l).length = 2 * 2 ^ l.length := by rw [List.length_cons, Int.pow_succ, Int.mul_comm]
    rw [e, e2]
    rcases h d (.head _) with rfl | rfl
    · simp; omega
    · simp; omega
theorem octs_in {l : List Nat} (hb : ∀ d ∈ l, d = 0 ∨ d = 1) (k : Nat) : KBa.In (octs l k) := by
  intro n hn
  obtain ⟨i, _, rfl⟩ := List.mem_map.mp hn
  have h := val_bin ((l.drop (8 * i)).take 8) fun d hd => hb d (List.mem_of_mem_drop (List.mem_of_mem_take hd))
  have hl : ((l.drop (8 * i)).take 8).length ≤ 8 := by rw [List.length_take]; omega
  have := two_pow_le hl
  have e : (2 : Int) ^ 8 = 256 := by decide
  omega
theorem octs_length (l : List Nat) (k : Nat) : (octs l k).length = k := by simp [octs]
theorem octs_one (a : List Nat) (ha : a.length = 8) : octs a 1 = [val a] := by
  simp [octs, List.range_succ, ← ha]
theorem octs_cons (a b : List Nat) (ha : a.length = 8) (k : Nat) : octs (a ++ b) (k + 1) = val a :: octs b k := by
  unfold octs
  rw [List.range_succ_eq_map, List.map_cons, List.map_map]
  congr 1
  · simp [← ha]
  · refine List.map_congr_left fun i _ => ?_
    simp only [Function.comp]
    rw [show 8 * (i + 1) = a.length + 8 * i from by omega, ← List.drop_drop, List.drop_left]
theorem val_lead (a : List Nat) (n : Int) (c : Nat) : val (a ++ bits n c) = val a * 2 ^ c + n % 2 ^ c := by rw [val_append, val_bits, bits_length]
theorem octs_7 (n : Int) (h : 0 ≤ n ∧ n < 128) : octs ([0] ++ bits n 7) 1 = spread n 1 := by
  rw [octs_one _ (by simp [bits_length]), val_lead, val_one]
  show [(0 : Int) * 2 ^ 7 + n % 2 ^ 7] = [n]
  rw [show ((2 : Int) ^ 7) = 128 from by decide]
  congr 1; omega
theorem octs_14 (n : Int) (h : 0 ≤ n ∧ n < 16384) : octs ([1, 0] ++ bits n 14) 2 = spread n 2 := by
  rw [show bits n 14 = bits (n / 2 ^ 8) 6 ++ bits n 8 from bits_split 6 8 n, ← List.append_assoc, octs_cons _ _ (by simp [bits_length]), octs_one _ (bits_length n 8), val_lead, val_bits]
  show [val [1, 0] * 2 ^ 6 + n / 2 ^ 8 % 2 ^ 6, n % 2 ^ 8] = [128 + n / 256, n % 256]
  rw [show val [1, 0] = 2 from by decide, show ((2 : Int) ^ 6) = 64 from by decide, show ((2 : Int) ^ 8) = 256 from by decide]
  congr 1; omega
theorem octs_29 (n : Int) (h : 0 ≤ n ∧ n < 536870912) : octs ([1, 1, 0] ++ bits n 29) 4 = spread n 4 := by
  rw [show bits n 29 = bits (n / 2 ^ 24) 5 ++ bits n 24 from bits_split 5 24 n, show bits n 24 = bits (n / 2 ^ 16) 8 ++ bits n 16 from bits_split 8 16 n, show bits n 16 = bits (n / 2 ^ 8) 8 ++ bits n 8 from bits_split 8 8 n,
    ← List.append_assoc, octs_cons _ _ (by simp [bits_length]), octs_cons _ _ (bits_length _ 8), octs_cons _ _ (bits_length _ 8), octs_one _ (bits_length n 8), val_lead, val_bits, val_bits, val_bits]
  show [val [1, 1, 0] * 2 ^ 5 + n / 2 ^ 24 % 2 ^ 5, n / 2 ^ 16 % 2 ^ 8, n / 2 ^ 8 % 2 ^ 8, n % 2 ^ 8] = [192 + n / 16777216, n / 65536 % 256, n / 256 % 256, n % 256]
  rw [show val [1, 1, 0] = 6 from by decide, show ((2 : Int) ^ 5) = 32 from by decide, show ((2 : Int) ^ 8) = 256 from by decide, show ((2 : Int) ^ 24) = 16777216 from by decide, show ((2 : Int) ^ 16) = 65536 from by decide]
  congr 1; omega
theorem turn_bits (n : Int) (c : Nat) : (bits n (c + 1)).drop 1 ++ (bits n (c + 1)).take 1 = bits (2 * (n % 2 ^ c) + n / 2 ^ c % 2) (c + 1) := by
  have e : bits n (c + 1) = bits (n / 2 ^ c) 1 ++ bits n c := by rw [Nat.add_comm]; exact bits_split 1 c n
  have e1 : bits (n / 2 ^ c) 1 = [(n / 2 ^ c % 2).toNat] := by simp [bits]
  rw [bits_succ (2 * (n % 2 ^ c) + n / 2 ^ c % 2), show (2 * (n % 2 ^ c) + n / 2 ^ c % 2) / 2 = n % 2 ^ c from by omega, show (2 * (n % 2 ^ c) + n / 2 ^ c % 2) % 2 = n / 2 ^ c % 2 from by omega, bits_mod, e, e1]
  simp
theorem rot_as (n : Int) (c : Nat) (h : -(2 ^ c) ≤ n ∧ n < 2 ^ c) : 2 * (n % 2 ^ c) + n / 2 ^ c % 2 = 2 * (n % 2 ^ c) + (if n < 0 then 1 else 0) := by
  have hp := two_pow_pos c
  by_cases h0 : n < 0
  · rw [if_pos h0, (kbt_unique (q := -1) (r := n + 2 ^ c) hp (by omega) (by omega) (by omega)).1]; rfl
  · rw [if_neg h0, (kbt_unique (q := 0) (r := n) hp (by omega) (by omega) (by omega)).1]; rfl
theorem turned_7 (n : Int) (h : -64 ≤ n ∧ n < 64) : octs ([0] ++ ((bits n 7).drop 1 ++ (bits n 7).take 1)) 1 = spread (rot n) (iw n) := by
  have h1 := rot_as n 6 h
  have e : rot n = 2 * (n % 2 ^ 6) + (if n < 0 then 1 else 0) := by unfold rot; rw [if_pos h]; rfl
  have e2 : iw n = 1 := if_pos h
  rw [turn_bits n 6, h1, ← e, e2]
  have e6 : (2 : Int) ^ 6 = 64 := by decide
  refine octs_7 _ ?_
  rw [e, e6]; split <;> omega
theorem turned_14 (n : Int) (h' : ¬ (-64 ≤ n ∧ n < 64)) (h : -8192 ≤ n ∧ n < 8192) : octs ([1, 0] ++ ((bits n 14).drop 1 ++ (bits n 14).take 1)) 2 = spread (rot n) (iw n) := by
  have h1 := rot_as n 13 h
  have e : rot n = 2 * (n % 2 ^ 13) + (if n < 0 then 1 else 0) := by unfold rot; rw [if_neg h', if_pos h]; rfl
  have e2 : iw n = 2 := by unfold iw; rw [if_neg h', if_pos h]
  rw [turn_bits n 13, h1, ← e, e2]
  have e6 : (2 : Int) ^ 13 = 8192 := by decide
  refine octs_14 _ ?_
  rw [e, e6]; split <;> omega
theorem turned_29 (n : Int) (h' : ¬ (-64 ≤ n ∧ n < 64)) (h'' : ¬ (-8192 ≤ n ∧ n < 8192)) (h : -268435456 ≤ n ∧ n < 268435456) : octs ([1, 1, 0] ++ ((bits n 29).drop 1 ++ (bits n 29).take 1)) 4 = spread (rot n) (iw n) := by
  have h1 := rot_as n 28 h
  have e : rot n = 2 * (n % 2 ^ 28) + (if n < 0 then 1 else 0) := by unfold rot; rw [if_neg h', if_neg h'']; rfl
  have e2 : iw n = 4 := by unfold iw; rw [if_neg h', if_neg h'']
  rw [turn_bits n 28, h1, ← e, e2]
  have e6 : (2 : Int) ^ 28 = 268435456 := by decide
  refine octs_29 _ ?_
  rw [e, e6]; split <;> omega
theorem unrEnd1 {h₀ h' : Heap} {L i : Addr} {oi : Obj} {rest : (Str → Option Value) → List (Addr × Obj) → Prop} {s₁ : Shared} {tk : Nat} {m' : Str → Option Value} {nw : List (Addr × Obj)} (F : Fr h₀ L h' m') (N : News h₀ L h' ((i, oi) :: nw))
    (off : ∀ p ∈ nw, p.1 ≠ i) (r : rest m' nw) : UnrEndW h₀ L s₁ [(i, oi)] rest { s₁ with heap := h', toks := tk } :=
  ⟨h', tk, m', nw, rfl, F, N, fun p hp q hq => by rw [List.mem_singleton.mp hq]; exact off p hp, r⟩

end
local macro_rules | `(tactic| kct_one) => `(tactic| walk_at "mine kct_one")
local macro_rules | `(tactic| kxi_size) => `(tactic| walk_at "mine kxi_size")
section
def forB (s : Stmt) : List Stmt := match s with
  | .For _ _ b _ _ => b
  | .While _ b _ _ => b
  | _ => []
def atB (l : List Stmt) (i : Nat) : Stmt := l.getD i (.Pass ⟨0, 0, 0, 0⟩)
@[reducible] noncomputable def sR : Stmt := by
  refine (?g : (atB (forB (atB fB27 0)) 2 = (?b : Stmt)) → Stmt) ?h
  case g => exact fun _ => ?b
  case h => (conv => lhs; whnf)
theorem ints_snoc {y : Int} {t : Tok} : ∀ {vs : List Value} {ys : List Int}, IntsAre vs ys → IntsAre (vs ++ [.int y t]) (ys ++ [y])
  | _, _, .nil => .cons y t .nil
  | _, _, .cons z u r => .cons z u (ints_snoc r)
theorem news_tl0 {h₀ h : Heap} {L : Addr} {p : Addr × Obj} {l : List (Addr × Obj)} (N : News h₀ L h (p :: l)) : News h₀ L h l := fun q hq => N q (.tail _ hq)


/-- the row `return bytes([..])` of _law_octets, its text given -/
theorem w12 : True := by
  k_with_none
  (k_with "call type:bytes" => ((k_here; (with_reducible show wpAny _ _ (call (Value.type "bytes") [Value.ref _]) _ _ _); k_dflt (refine' Mine.call_bytes_tuple (by k_asm) (by k_asm) (by rfl) (by exact News.isTup (by k_asm) (by k_mem)) (by kba_listInts) ?_ (by kba_size) ?_; rotate_left); intro _ _ _ F' N' kbaIn)))
  (k_with "exec Raise some none" => ((k_here; (with_reducible show wpAny _ _ (exec (Stmt.Raise (some (Expr.Call (Expr.Name ("BadSig" : Str) _) _ _ _)) none _) _) _ _ _); k_dflt (refine Raise_own (C := 63) rfl ?_))))
  (k_with "exec Raise some none" => ((k_here; (with_reducible show wpAny _ _ (exec (Stmt.Raise (some (Expr.Call (Expr.Name ("BadImage" : Str) _) _ _ _)) none _) _) _ _ _); k_dflt (refine Raise_own (C := 51) rfl ?_))))
  (k_with "call ref" => ((k_here; (with_reducible show wpAny _ _ (call (Value.ref _) [_, _]) (RaisableX _ _) _ _); k_dflt (refine' raise_call _ _ _ _ (by first | exact excC_63 _ | exact excC_51 _) (by k_asm) (by k_asm) (by k_asm) (by k_asm) (by k_asm) (by exact rfl) (by ktr_room) (by ktr_units) ?_; k_whole; intro h' tk' e' t' d' F' N' hne' hnt'; (try dsimp only)))))
  (k_with "leaving ref" => ((k_here; first
  | (refine' leave_mine (by assumption) (by assumption) (by assumption) (by assumption) (by assumption) ?_; k_whole; intro h' R' U'; (try dsimp only))
  | (refine' leave_onS (by assumption) (by assumption) (by assumption) (by assumption) ?_; k_whole; intro h' R' RK' U'; (try dsimp only)))))
  (k_with "binaryOp Pow int int" => ((k_here; dsimp only; walk_at "binaryOp Pow int int")))
  (k_with "mine k_all" => (first | assumption | exact ne_lt (by assumption) | exact ne_succ (by assumption) | exact ne_lt (allLt_mem (And.right (by assumption))) | exact ne_lt (allLt_mem (And.right (And.right (by assumption))))))
  (k_with "mine kct_one" => (first | with_reducible exact lead_0 | with_reducible exact lead_10 | with_reducible exact lead_110 | with_reducible exact bits_from1 _ _ (by decide) | with_reducible exact bits_item0 _ _ (by decide) | with_reducible rfl))
  (k_with "binaryOp Add str str" => ((k_here; (refine addT (by kct_one) (by kct_one) (by simp [bits_length]) ?_); intro _ _)))
  (k_with "call builtin:len" => ((k_here; (with_reducible show wpAny _ _ (call (Value.builtin "len") [Value.str (T _) _]) _ _ _); (refine lenT (by simp [bits_length]) ?_))))
  (k_with "UnrEndW" => ((refine unrEnd1 (by assumption) (by assumption) (ne_lt (allLt_mem (by assumption))) ⟨trivial, ?_⟩)))
  (k_with "subscriptTail" => ((k_here; (with_reducible show wpAny _ _ (subscriptTail _ _ (Value.str (T _) _) (Value.int _ _)) _ _ _); (refine itemT (by first | decide | omega) (by first | (simp [bits_length]; done) | (simp [bits_length]; omega)) (by simp [bits_length]) ?_))))
  (k_with "call builtin:len" => ((k_here; (with_reducible show wpAny _ _ (call (Value.builtin "len") [Value.str (T _) _]) _ _ _); (refine lenT (by omega) ?_))))
  (k_with "eval ListComp" => ((k_here; k_dflt (refine ListComp_M (by k_asm) (by with_unfolding_all rfl) (by decide) (by rfl) (by decide) (by rfl) ?_))))
  (k_with "mine kxi_size" => ((show (T _).length ≤ _; rw [T_length]; (try rw [PySem.sizeLine_eq]); omega)))
  trivial
theorem ret_octs {w : World} {bs : List Nat} {k : Nat}
    {mean : ExcName → Option Value} {mg mb : Str → Option Value} {dp un : Nat} {gd : Option (List Code)} {cn : Str} {cs : Scope} {a : Addr} {ccd : Value} {cl : List (Str × Addr)} {outer : List Env} {base g : Heap} {L L' : Addr} {m' : Str → Option Value} {news : List (Addr × Obj)} {I₀ : Addr} {oI₀ oT : Obj} {t : Tok} {s : Shared} {Q : Flow → Shared → Prop} {E : Value → Shared → Prop}
    (B : Below (ktrTop dp un gd cn cs L a ccd cl outer) base (envX cn cs L a ccd cl :: outer) g) (X : (Mine.K w.params).In g) (TT : Top Mine.view (looseW Mine.view []) mean mg mb g)
    (hd : dp + 40 < recursionLimit) (hu : un + 10 * 40 < cLine)
    (F : Fr g L' s.heap m') (N : News g L' s.heap ((I₀, oI₀) :: (L' + 1, oT) :: news)) (hc : oT.data = Data.cell (some (.str (T bs) t)))
    (hlen : bs.length = 8 * k) (hk : k ≤ 4) (hbin : ∀ d ∈ bs, d = 0 ∨ d = 1)
    (ret : ∀ t' h' tk', Fr g L' h' m' → News g L' h' ((I₀, oI₀) :: (L' + 1, oT) :: news) → Q (.ret (.bytes (byteArr (octs bs k)) t')) { s with heap := h', toks := tk' }) :
    wpAny (model PySem.Challenge.rw_sa0222_01.row.prog w) ((ktrTop dp un gd cn cs L a ccd cl outer).deeper (envOfC (Str.ofString "_law_octets") fS27 L' 262 (.ref 261))) (exec sR (envOfC (Str.ofString "_law_octets") fS27 L' 262 (.ref 261))) Q E s := by
  revert X
  k_fill
  intro X
  have hl : bs.length ≤ 32 := by omega
  k_steps
  refine ⟨k, _, _, by assumption, by assumption, by rw [PySem.sizeLine_eq]; omega, srcM_range rfl (by assumption) (range8_small k hk _ hlen) (range8_size k hk _ hlen), ?_⟩
  rintro s₂ ⟨h₂, rfl⟩
  refine rest_map IntsAre (fun a y => ∃ t, y = .int a t) .nil (fun vs xs a y h1 h2 => by obtain ⟨t, rfl⟩ := h2; exact ints_snoc h1) (fun i => val ((bs.drop (8 * i)).take 8)) ?_ ?_
  · intro i v I oI C oC D m₂ ys h tk E' hi hP hC hx F' N' off ne
    obtain ⟨hi', t1, rfl⟩ := hP
    k_steps
    rw [slice_at _ i (by omega)]
    k_dflt ((refine Pure.useR (by k_asm) (by k_asm) (by k_asm) (by k_asm) (by k_asm) (by first | exact rfl | assumption) (by ktr_room) (by ktr_units) (law_number_ok w _ _ (Nat.le_trans (List.length_take_le 8 _) (by decide)) (fun d hd => hbin d (List.mem_of_mem_drop (List.mem_of_mem_take hd)))) ?_; k_whole; intro v' h' tk' R' F' N'; first | (obtain ⟨t', e'⟩ := R'; subst e') | (obtain ⟨z', hz', t', e'⟩ := R'; subst e') | subst R'; (try dsimp only); (try k_fold)))
    k_steps
    exact LCg.CompEnd.intro (by assumption) (by assumption) _ (fun p hp => hp) off trivial ⟨rfl, _, rfl⟩
  · intro ys hys
    k_steps
    refine KBa.make_K (ns := octs bs k) (by assumption) (by assumption) rfl (News.isList (by assumption) (by k_mem)) hys (octs_in hbin k) (by rw [octs_length]; omega) ?_
    intro _ _ _ F' N' _
    k_steps
    exact ret _ _ _ (by k_asm) (news_tl0 (by k_asm))

end
section


theorem w13 : True := by
  k_with_none
  (k_with "call type:bytes" => ((k_here; (with_reducible show wpAny _ _ (call (Value.type "bytes") [Value.ref _]) _ _ _); k_dflt (refine' Mine.call_bytes_tuple (by k_asm) (by k_asm) (by rfl) (by exact News.isTup (by k_asm) (by k_mem)) (by kba_listInts) ?_ (by kba_size) ?_; rotate_left); intro _ _ _ F' N' kbaIn)))
  (k_with "exec Raise some none" => ((k_here; (with_reducible show wpAny _ _ (exec (Stmt.Raise (some (Expr.Call (Expr.Name ("BadSig" : Str) _) _ _ _)) none _) _) _ _ _); k_dflt (refine Raise_own (C := 63) rfl ?_))))
  (k_with "exec Raise some none" => ((k_here; (with_reducible show wpAny _ _ (exec (Stmt.Raise (some (Expr.Call (Expr.Name ("BadImage" : Str) _) _ _ _)) none _) _) _ _ _); k_dflt (refine Raise_own (C := 51) rfl ?_))))
  (k_with "call ref" => ((k_here; (with_reducible show wpAny _ _ (call (Value.ref _) [_, _]) (RaisableX _ _) _ _); k_dflt (refine' raise_call _ _ _ _ (by first | exact excC_63 _ | exact excC_51 _) (by k_asm) (by k_asm) (by k_asm) (by k_asm) (by k_asm) (by exact rfl) (by ktr_room) (by ktr_units) ?_; k_whole; intro h' tk' e' t' d' F' N' hne' hnt'; (try dsimp only)))))
  (k_with "leaving ref" => ((k_here; first
  | (refine' leave_mine (by assumption) (by assumption) (by assumption) (by assumption) (by assumption) ?_; k_whole; intro h' R' U'; (try dsimp only))
  | (refine' leave_onS (by assumption) (by assumption) (by assumption) (by assumption) ?_; k_whole; intro h' R' RK' U'; (try dsimp only)))))
  (k_with "binaryOp Pow int int" => ((k_here; dsimp only; walk_at "binaryOp Pow int int")))
  (k_with "mine k_all" => (first | assumption | exact ne_lt (by assumption) | exact ne_succ (by assumption) | exact ne_lt (allLt_mem (And.right (by assumption))) | exact ne_lt (allLt_mem (And.right (And.right (by assumption))))))
  (k_with "mine kct_one" => (first | with_reducible exact lead_0 | with_reducible exact lead_10 | with_reducible exact lead_110 | with_reducible exact bits_from1 _ _ (by decide) | with_reducible exact bits_item0 _ _ (by decide) | with_reducible rfl))
  (k_with "binaryOp Add str str" => ((k_here; (refine addT (by kct_one) (by kct_one) (by simp [bits_length]) ?_); intro _ _)))
  (k_with "call builtin:len" => ((k_here; (with_reducible show wpAny _ _ (call (Value.builtin "len") [Value.str (T _) _]) _ _ _); (refine lenT (by simp [bits_length]) ?_))))
  (k_with "UnrEndW" => ((refine unrEnd1 (by assumption) (by assumption) (ne_lt (allLt_mem (by assumption))) ⟨trivial, ?_⟩)))
  (k_with "subscriptTail" => ((k_here; (with_reducible show wpAny _ _ (subscriptTail _ _ (Value.str (T _) _) (Value.int _ _)) _ _ _); (refine itemT (by first | decide | omega) (by first | (simp [bits_length]; done) | (simp [bits_length]; omega)) (by simp [bits_length]) ?_))))
  trivial
section
theorem w14 : True := by
  (k_with "call ref" => ((k_here; (with_reducible show wpAny _ _ (call (Value.ref 243) [Value.int _ _, Value.int _ _]) _ _ _); k_dflt ((refine Pure.useR (by k_asm) (by k_asm) (by k_asm) (by k_asm) (by k_asm) (by first | exact rfl | assumption) (by ktr_room) (by ktr_units) (law_digits_ok _ _ _ _ _ (by omega) (by omega)) ?_; k_whole; intro v' h' tk' R' F' N'; first | (obtain ⟨t', e'⟩ := R'; subst e') | (obtain ⟨z', hz', t', e'⟩ := R'; subst e') | subst R'; (try dsimp only); (try k_fold))))))
  (k_with "eval Call" => ((k_here; (with_reducible show wpAny _ _ (eval (Expr.Call (Expr.Name ("_law_digits" : Str) _) _ _ _) _) _ _ _); k_dflt (refine Call_Name (by rfl) ?_))))
  (k_with "exec Return some" => ((k_here; (with_reducible show wpAny _ _ (exec (Stmt.Return (some (Expr.Call (Expr.Name ("bytes" : Str) _) _ _ _)) _) _) _ _ _); k_dflt (refine ret_octs (by k_asm) (by k_asm) (by k_asm) (by ktr_room) (by ktr_units) (by k_asm) (by k_asm) (by assumption) (by first | exact len_7 _ | exact len_14 _ | exact len_29 _ | exact lent_7 _ | exact lent_14 _ | exact lent_29 _) (by decide) (fun d hd => by first | exact lead_bin (by decide) hd | exact turned_bin (by decide) hd) ?_); k_whole; intro t' h' tk' F' N'; (try dsimp only))))
  trivial
theorem pow_all : (2 : Int) ^ Int.toNat 7 = 128 ∧ (2 : Int) ^ Int.toNat 14 = 16384 ∧ (2 : Int) ^ Int.toNat 29 = 536870912 ∧ (2 : Int) ^ (7 - 1 : Int).toNat = 64 ∧ (2 : Int) ^ (14 - 1 : Int).toNat = 8192 ∧ (2 : Int) ^ (29 - 1 : Int).toNat = 268435456 := by decide
theorem lead_bin {a : List Nat} {n : Int} {c : Nat} (ha : ∀ d ∈ a, d = 0 ∨ d = 1) : ∀ {d : Nat}, d ∈ a ++ bits n c → d = 0 ∨ d = 1 := fun hd => (List.mem_append.mp hd).elim (ha _) (bits_bin n c _)
theorem turned_bin {a : List Nat} {n : Int} {c : Nat} (ha : ∀ d ∈ a, d = 0 ∨ d = 1) : ∀ {d : Nat}, d ∈ a ++ (bits n c).drop 1 ++ (bits n c).take 1 → d = 0 ∨ d = 1 := fun hd =>
  (List.mem_append.mp hd).elim (fun h => (List.mem_append.mp h).elim (ha _) fun h => bits_bin n c _ (List.mem_of_mem_drop h)) fun h => bits_bin n c _ (List.mem_of_mem_take h)
theorem len_7 (n : Int) : ([0] ++ bits n 7).length = 8 * 1 := by simp [bits_length]
theorem len_14 (n : Int) : ([1, 0] ++ bits n 14).length = 8 * 2 := by simp [bits_length]
theorem len_29 (n : Int) : ([1, 1, 0] ++ bits n 29).length = 8 * 4 := by simp [bits_length]
theorem lent_7 (n : Int) : ([0] ++ (bits n 7).drop 1 ++ (bits n 7).take 1).length = 8 * 1 := by simp [bits_length]
theorem lent_14 (n : Int) : ([1, 0] ++ (bits n 14).drop 1 ++ (bits n 14).take 1).length = 8 * 2 := by simp [bits_length]
theorem lent_29 (n : Int) : ([1, 1, 0] ++ (bits n 29).drop 1 ++ (bits n 29).take 1).length = 8 * 4 := by simp [bits_length]
theorem law_octets_u (w : World) (n : Int) (t : Tok) (hn : -1073741824 ≤ n ∧ n ≤ 1073741824) : Pure w 40 262 [.int n t, .bool false] (fun v => (0 ≤ n ∧ n < 536870912 ∧ ∃ t, v = .bytes (byteArr (spread n (uw n))) t) ∨ (¬ (0 ≤ n ∧ n < 536870912) ∧ v = .none)) := by
  unfold Pure
  k_fill
  intro mean mg mb dp un gd cn cs a ccd cl outer A₀ base h₀ L m news s Q E B F X N T' hk hd hu hret
  refine wpAny_call ?_
  k_dflt (walk_at "mine enterC")
  obtain ⟨q1, q2, q3, q4, q5, q6⟩ := pow_all
  k_steps
  all_goals first
    | exact hret _ _ _ (.inr ⟨by omega, rfl⟩) (by k_asm) (cb_drop (by assumption) fun p hp => .tail _ hp)
    | exact hret _ _ _ (.inl ⟨by omega, by omega, bytes_eq (octs_7 n ⟨by omega, by omega⟩ |>.trans (by rw [uw, if_pos (by omega)]))⟩) (by k_asm) (cb_drop (by assumption) fun p hp => .tail _ (.tail _ hp))
    | exact hret _ _ _ (.inl ⟨by omega, by omega, bytes_eq (octs_14 n ⟨by omega, by omega⟩ |>.trans (by rw [uw, if_neg (by omega), if_pos (by omega)]))⟩) (by k_asm) (cb_drop (by assumption) fun p hp => .tail _ (.tail _ hp))
    | exact hret _ _ _ (.inl ⟨by omega, by omega, bytes_eq (octs_29 n ⟨by omega, by omega⟩ |>.trans (by rw [uw, if_neg (by omega), if_neg (by omega)]))⟩) (by k_asm) (cb_drop (by assumption) fun p hp => .tail _ (.tail _ hp))
end

theorem w15 : True := by
  k_with_none
  (k_with "call type:bytes" => ((k_here; (with_reducible show wpAny _ _ (call (Value.type "bytes") [Value.ref _]) _ _ _); k_dflt (refine' Mine.call_bytes_tuple (by k_asm) (by k_asm) (by rfl) (by exact News.isTup (by k_asm) (by k_mem)) (by kba_listInts) ?_ (by kba_size) ?_; rotate_left); intro _ _ _ F' N' kbaIn)))
  (k_with "exec Raise some none" => ((k_here; (with_reducible show wpAny _ _ (exec (Stmt.Raise (some (Expr.Call (Expr.Name ("BadSig" : Str) _) _ _ _)) none _) _) _ _ _); k_dflt (refine Raise_own (C := 63) rfl ?_))))
  (k_with "exec Raise some none" => ((k_here; (with_reducible show wpAny _ _ (exec (Stmt.Raise (some (Expr.Call (Expr.Name ("BadImage" : Str) _) _ _ _)) none _) _) _ _ _); k_dflt (refine Raise_own (C := 51) rfl ?_))))
  (k_with "call ref" => ((k_here; (with_reducible show wpAny _ _ (call (Value.ref _) [_, _]) (RaisableX _ _) _ _); k_dflt (refine' raise_call _ _ _ _ (by first | exact excC_63 _ | exact excC_51 _) (by k_asm) (by k_asm) (by k_asm) (by k_asm) (by k_asm) (by exact rfl) (by ktr_room) (by ktr_units) ?_; k_whole; intro h' tk' e' t' d' F' N' hne' hnt'; (try dsimp only)))))
  (k_with "leaving ref" => ((k_here; first
  | (refine' leave_mine (by assumption) (by assumption) (by assumption) (by assumption) (by assumption) ?_; k_whole; intro h' R' U'; (try dsimp only))
  | (refine' leave_onS (by assumption) (by assumption) (by assumption) (by assumption) ?_; k_whole; intro h' R' RK' U'; (try dsimp only)))))
  (k_with "binaryOp Pow int int" => ((k_here; dsimp only; walk_at "binaryOp Pow int int")))
  (k_with "mine k_all" => (first | assumption | exact ne_lt (by assumption) | exact ne_succ (by assumption) | exact ne_lt (allLt_mem (And.right (by assumption))) | exact ne_lt (allLt_mem (And.right (And.right (by assumption))))))
  (k_with "mine kct_one" => (first | with_reducible exact lead_0 | with_reducible exact lead_10 | with_reducible exact lead_110 | with_reducible exact bits_from1 _ _ (by decide) | with_reducible exact bits_item0 _ _ (by decide) | with_reducible rfl))
  (k_with "binaryOp Add str str" => ((k_here; (refine addT (by kct_one) (by kct_one) (by simp [bits_length]) ?_); intro _ _)))
  (k_with "call builtin:len" => ((k_here; (with_reducible show wpAny _ _ (call (Value.builtin "len") [Value.str (T _) _]) _ _ _); (refine lenT (by simp [bits_length]) ?_))))
  (k_with "UnrEndW" => ((refine unrEnd1 (by assumption) (by assumption) (ne_lt (allLt_mem (by assumption))) ⟨trivial, ?_⟩)))
  (k_with "subscriptTail" => ((k_here; (with_reducible show wpAny _ _ (subscriptTail _ _ (Value.str (T _) _) (Value.int _ _)) _ _ _); (refine itemT (by first | decide | omega) (by first | (simp [bits_length]; done) | (simp [bits_length]; omega)) (by simp [bits_length]) ?_))))
  trivial
end
section


theorem w16 : True := by
  k_with_none
  (k_with "call type:bytes" => ((k_here; (with_reducible show wpAny _ _ (call (Value.type "bytes") [Value.ref _]) _ _ _); k_dflt (refine' Mine.call_bytes_tuple (by k_asm) (by k_asm) (by rfl) (by exact News.isTup (by k_asm) (by k_mem)) (by kba_listInts) ?_ (by kba_size) ?_; rotate_left); intro _ _ _ F' N' kbaIn)))
  (k_with "exec Raise some none" => ((k_here; (with_reducible show wpAny _ _ (exec (Stmt.Raise (some (Expr.Call (Expr.Name ("BadSig" : Str) _) _ _ _)) none _) _) _ _ _); k_dflt (refine Raise_own (C := 63) rfl ?_))))
  (k_with "exec Raise some none" => ((k_here; (with_reducible show wpAny _ _ (exec (Stmt.Raise (some (Expr.Call (Expr.Name ("BadImage" : Str) _) _ _ _)) none _) _) _ _ _); k_dflt (refine Raise_own (C := 51) rfl ?_))))
  (k_with "call ref" => ((k_here; (with_reducible show wpAny _ _ (call (Value.ref _) [_, _]) (RaisableX _ _) _ _); k_dflt (refine' raise_call _ _ _ _ (by first | exact excC_63 _ | exact excC_51 _) (by k_asm) (by k_asm) (by k_asm) (by k_asm) (by k_asm) (by exact rfl) (by ktr_room) (by ktr_units) ?_; k_whole; intro h' tk' e' t' d' F' N' hne' hnt'; (try dsimp only)))))
  (k_with "leaving ref" => ((k_here; first
  | (refine' leave_mine (by assumption) (by assumption) (by assumption) (by assumption) (by assumption) ?_; k_whole; intro h' R' U'; (try dsimp only))
  | (refine' leave_onS (by assumption) (by assumption) (by assumption) (by assumption) ?_; k_whole; intro h' R' RK' U'; (try dsimp only)))))
  (k_with "binaryOp Pow int int" => ((k_here; dsimp only; walk_at "binaryOp Pow int int")))
  (k_with "mine k_all" => (first | assumption | exact ne_lt (by assumption) | exact ne_succ (by assumption) | exact ne_lt (allLt_mem (And.right (by assumption))) | exact ne_lt (allLt_mem (And.right (And.right (by assumption))))))
  (k_with "mine kct_one" => (first | with_reducible exact lead_0 | with_reducible exact lead_10 | with_reducible exact lead_110 | with_reducible exact bits_from1 _ _ (by decide) | with_reducible exact bits_item0 _ _ (by decide) | with_reducible rfl))
  (k_with "binaryOp Add str str" => ((k_here; (refine addT (by kct_one) (by kct_one) (by simp [bits_length]) ?_); intro _ _)))
  (k_with "call builtin:len" => ((k_here; (with_reducible show wpAny _ _ (call (Value.builtin "len") [Value.str (T _) _]) _ _ _); (refine lenT (by simp [bits_length]) ?_))))
  (k_with "UnrEndW" => ((refine unrEnd1 (by assumption) (by assumption) (ne_lt (allLt_mem (by assumption))) ⟨trivial, ?_⟩)))
  (k_with "subscriptTail" => ((k_here; (with_reducible show wpAny _ _ (subscriptTail _ _ (Value.str (T _) _) (Value.int _ _)) _ _ _); (refine itemT (by first | decide | omega) (by first | (simp [bits_length]; done) | (simp [bits_length]; omega)) (by simp [bits_length]) ?_))))
  trivial
section
theorem w17 : True := by
  (k_with "call ref" => ((k_here; (with_reducible show wpAny _ _ (call (Value.ref 243) [Value.int _ _, Value.int _ _]) _ _ _); k_dflt ((refine Pure.useR (by k_asm) (by k_asm) (by k_asm) (by k_asm) (by k_asm) (by first | exact rfl | assumption) (by ktr_room) (by ktr_units) (law_digits_ok _ _ _ _ _ (by omega) (by omega)) ?_; k_whole; intro v' h' tk' R' F' N'; first | (obtain ⟨t', e'⟩ := R'; subst e') | (obtain ⟨z', hz', t', e'⟩ := R'; subst e') | subst R'; (try dsimp only); (try k_fold))))))
  (k_with "eval Call" => ((k_here; (with_reducible show wpAny _ _ (eval (Expr.Call (Expr.Name ("_law_digits" : Str) _) _ _ _) _) _ _ _); k_dflt (refine Call_Name (by rfl) ?_))))
  (k_with "exec Return some" => ((k_here; (with_reducible show wpAny _ _ (exec (Stmt.Return (some (Expr.Call (Expr.Name ("bytes" : Str) _) _ _ _)) _) _) _ _ _); k_dflt (refine ret_octs (by k_asm) (by k_asm) (by k_asm) (by ktr_room) (by ktr_units) (by k_asm) (by k_asm) (by assumption) (by first | exact len_7 _ | exact len_14 _ | exact len_29 _ | exact lent_7 _ | exact lent_14 _ | exact lent_29 _) (by decide) (fun d hd => by first | exact lead_bin (by decide) hd | exact turned_bin (by decide) hd) ?_); k_whole; intro t' h' tk' F' N'; (try dsimp only))))
  trivial
theorem law_octets_s (w : World) (n : Int) (t : Tok) (hn : -1073741824 ≤ n ∧ n ≤ 1073741824) : Pure w 40 262 [.int n t, .bool true] (fun v => (-268435456 ≤ n ∧ n < 268435456 ∧ ∃ t, v = .bytes (byteArr (spread (rot n) (iw n))) t) ∨ (¬ (-268435456 ≤ n ∧ n < 268435456) ∧ v = .none)) := by
  unfold Pure
  k_fill
  intro mean mg mb dp un gd cn cs a ccd cl outer A₀ base h₀ L m news s Q E B F X N T' hk hd hu hret
  refine wpAny_call ?_
  k_dflt (walk_at "mine enterC")
  obtain ⟨q1, q2, q3, q4, q5, q6⟩ := pow_all
  k_steps
  all_goals first
    | exact hret _ _ _ (.inr ⟨by omega, rfl⟩) (by k_asm) (cb_drop (by assumption) fun p hp => .tail _ hp)
    | exact hret _ _ _ (.inl ⟨by omega, by omega, bytes_eq ((congrArg (fun l => octs l 1) (List.append_assoc _ _ _)).trans (turned_7 n ⟨by omega, by omega⟩))⟩) (by k_asm) (cb_drop (by assumption) fun p hp => .tail _ (.tail _ hp))
    | exact hret _ _ _ (.inl ⟨by omega, by omega, bytes_eq ((congrArg (fun l => octs l 2) (List.append_assoc _ _ _)).trans (turned_14 n (by omega) ⟨by omega, by omega⟩))⟩) (by k_asm) (cb_drop (by assumption) fun p hp => .tail _ (.tail _ hp))
    | exact hret _ _ _ (.inl ⟨by omega, by omega, bytes_eq ((congrArg (fun l => octs l 4) (List.append_assoc _ _ _)).trans (turned_29 n (by omega) (by omega) ⟨by omega, by omega⟩))⟩) (by k_asm) (cb_drop (by assumption) fun p hp => .tail _ (.tail _ hp))
end

theorem w18 : True := by
  k_with_none
  (k_with "call type:bytes" => ((k_here; (with_reducible show wpAny _ _ (call (Value.type "bytes") [Value.ref _]) _ _ _); k_dflt (refine' Mine.call_bytes_tuple (by k_asm) (by k_asm) (by rfl) (by exact News.isTup (by k_asm) (by k_mem)) (by kba_listInts) ?_ (by kba_size) ?_; rotate_left); intro _ _ _ F' N' kbaIn)))
  (k_with "exec Raise some none" => ((k_here; (with_reducible show wpAny _ _ (exec (Stmt.Raise (some (Expr.Call (Expr.Name ("BadSig" : Str) _) _ _ _)) none _) _) _ _ _); k_dflt (refine Raise_own (C := 63) rfl ?_))))
  (k_with "exec Raise some none" => ((k_here; (with_reducible show wpAny _ _ (exec (Stmt.Raise (some (Expr.Call (Expr.Name ("BadImage" : Str) _) _ _ _)) none _) _) _ _ _); k_dflt (refine Raise_own (C := 51) rfl ?_))))
  (k_with "call ref" => ((k_here; (with_reducible show wpAny _ _ (call (Value.ref _) [_, _]) (RaisableX _ _) _ _); k_dflt (refine' raise_call _ _ _ _ (by first | exact excC_63 _ | exact excC_51 _) (by k_asm) (by k_asm) (by k_asm) (by k_asm) (by k_asm) (by exact rfl) (by ktr_room) (by ktr_units) ?_; k_whole; intro h' tk' e' t' d' F' N' hne' hnt'; (try dsimp only)))))
  (k_with "leaving ref" => ((k_here; first
  | (refine' leave_mine (by assumption) (by assumption) (by assumption) (by assumption) (by assumption) ?_; k_whole; intro h' R' U'; (try dsimp only))
  | (refine' leave_onS (by assumption) (by assumption) (by assumption) (by assumption) ?_; k_whole; intro h' R' RK' U'; (try dsimp only)))))
  (k_with "binaryOp Pow int int" => ((k_here; dsimp only; walk_at "binaryOp Pow int int")))
  (k_with "mine k_all" => (first | assumption | exact ne_lt (by assumption) | exact ne_succ (by assumption) | exact ne_lt (allLt_mem (And.right (by assumption))) | exact ne_lt (allLt_mem (And.right (And.right (by assumption))))))
  (k_with "mine kct_one" => (first | with_reducible exact lead_0 | with_reducible exact lead_10 | with_reducible exact lead_110 | with_reducible exact bits_from1 _ _ (by decide) | with_reducible exact bits_item0 _ _ (by decide) | with_reducible rfl))
  (k_with "binaryOp Add str str" => ((k_here; (refine addT (by kct_one) (by kct_one) (by simp [bits_length]) ?_); intro _ _)))
  (k_with "call builtin:len" => ((k_here; (with_reducible show wpAny _ _ (call (Value.builtin "len") [Value.str (T _) _]) _ _ _); (refine lenT (by simp [bits_length]) ?_))))
  (k_with "UnrEndW" => ((refine unrEnd1 (by assumption) (by assumption) (ne_lt (allLt_mem (by assumption))) ⟨trivial, ?_⟩)))
  (k_with "subscriptTail" => ((k_here; (with_reducible show wpAny _ _ (subscriptTail _ _ (Value.str (T _) _) (Value.int _ _)) _ _ _); (refine itemT (by first | decide | omega) (by first | (simp [bits_length]; done) | (simp [bits_length]; omega)) (by simp [bits_length]) ?_))))
  trivial
end
local macro_rules | `(tactic| walk_at "mine enterF") => `(tactic| (refine' code_def ?k1 ?k2 ?k3 ?k4 ?k5 ?kA ?kF ?kK ?k6 ?k7 ?k8 ?k9 ?kB ?_ ?c2 ?c3 ?c4 ?c5; (case kA => exact rfl); (case kF => exact rfl); (case kK => first | exact rfl | assumption); (case k1 => k_asm); (case k2 => k_asm); (case k3 => k_asm); (case k4 => k_asm); (case k5 => k_asm); (case k6 => k_is); (case k7 => k_is); (case k8 => ktr_room); (case k9 => exact BindsTo.of_eq rfl); (case c5 => decide); (case kB => exact locs rfl); (case c2 => exact rfl); (case c3 => exact rfl); (case c4 => exact rfl); k_whole; intro g' L' h' FG' F' N' B' X' T'; (try dsimp only); (try k_lift B'); (try k_fold)))
section
/-- the dict of an In: its octets, its place, its end -/
abbrev inD (w : World) (k1 k2 k3 : Tok) (b : Array UInt8) (t1 : Tok) (a : Int) (t2 : Tok) (e : Int) (t3 : Tok) : Obj :=
  dictOf [⟨PyData.keyHash w.params "data", .str "data" k1, .bytes b t1⟩, ⟨PyData.keyHash w.params "at", .str "at" k2, .int a t2⟩, ⟨PyData.keyHash w.params "end", .str "end" k3, .int e t3⟩] 3
theorem u8_val {ks : List Int} (hin : ∀ k ∈ ks, 0 ≤ k ∧ k < 256) (a : Int) : Builtin.bitOr 0 (ks.getD (a + (0 + ((0 : Nat) : Int))).toNat 0 * 2 ^ (8 * (0 + ((0 : Nat) : Int))).toNat) = ks.getD a.toNat 0 := by
  have h := KBw.getD_in (j := a.toNat) hin
  rw [show a + (0 + ((0 : Nat) : Int)) = a from by omega, show ((8 * (0 + ((0 : Nat) : Int))).toNat) = 0 from rfl, Int.pow_zero, Int.mul_one, bitOr_zero _ h.1]
theorem bInts_in (b : Array UInt8) : ∀ k ∈ KBw.bInts b, 0 ≤ k ∧ k < 256 := fun k hk => KBw.ints_in hk


theorem w19 : True := by
  k_with_none
  (k_with "call ref" => ((k_here; refine wpAny_call ?_; k_dflt (walk_at "mine enterF"))))
  (k_with "call type:bytes" => ((k_here; (with_reducible show wpAny _ _ (call (Value.type "bytes") [Value.ref _]) _ _ _); k_dflt (refine' Mine.call_bytes_tuple (by k_asm) (by k_asm) (by rfl) (by exact News.isTup (by k_asm) (by k_mem)) (by kba_listInts) ?_ (by kba_size) ?_; rotate_left); intro _ _ _ F' N' kbaIn)))
  (k_with "exec Raise some none" => ((k_here; (with_reducible show wpAny _ _ (exec (Stmt.Raise (some (Expr.Call (Expr.Name ("BadSig" : Str) _) _ _ _)) none _) _) _ _ _); k_dflt (refine Raise_own (C := 63) rfl ?_))))
  (k_with "exec Raise some none" => ((k_here; (with_reducible show wpAny _ _ (exec (Stmt.Raise (some (Expr.Call (Expr.Name ("BadImage" : Str) _) _ _ _)) none _) _) _ _ _); k_dflt (refine Raise_own (C := 51) rfl ?_))))
  (k_with "call ref" => ((k_here; (with_reducible show wpAny _ _ (call (Value.ref _) [_, _]) (RaisableX _ _) _ _); k_dflt (refine' raise_call _ _ _ _ (by first | exact excC_63 _ | exact excC_51 _) (by k_asm) (by k_asm) (by k_asm) (by k_asm) (by k_asm) (by exact rfl) (by ktr_room) (by ktr_units) ?_; k_whole; intro h' tk' e' t' d' F' N' hne' hnt'; (try dsimp only)))))
  (k_with "leaving ref" => ((k_here; first
  | (refine' leave_mine (by assumption) (by assumption) (by assumption) (by assumption) (by assumption) ?_; k_whole; intro h' R' U'; (try dsimp only))
  | (refine' leave_onS (by assumption) (by assumption) (by assumption) (by assumption) ?_; k_whole; intro h' R' RK' U'; (try dsimp only)))))
  (k_with "binaryOp Pow int int" => ((k_here; dsimp only; walk_at "binaryOp Pow int int")))
  (k_with "mine k_all" => (first | assumption | exact ne_lt (by assumption) | exact ne_succ (by assumption) | exact ne_lt (allLt_mem (And.right (by assumption))) | exact ne_lt (allLt_mem (And.right (And.right (by assumption))))))
  (k_with "UnrEnd" => ((refine UnrEnd.intro (by assumption) (by assumption) _ (fun p hp => hp) (ne_lt (allLt_mem (by assumption))) ?_)))
  trivial
theorem u8_ok (w : World) (x dx : Addr) (k1 k2 k3 t1 t2 t3 : Tok) (b : Array UInt8) (a e : Int) (rest : List (Addr × Obj)) (hx : x ≠ dx) (hr : ∀ p ∈ rest, p.1 ≠ dx) (ks : List Int) (hb : KBw.bInts b = ks) (h : 0 ≤ a ∧ a < e ∧ e ≤ ks.length) (hsz : ks.length ≤ 100000) :
    Call w 40 93 [.ref x] ((x, instObj 159 dx) :: (dx, inD w k1 k2 k3 b t1 a t2 e t3) :: rest)
    (fun v nw => ∃ t2', nw = (x, instObj 159 dx) :: (dx, inD w k1 k2 k3 b t1 (a + 1) t2' e t3) :: rest ∧ ∃ t, v = .int (ks.getD a.toNat 0) t)
    (fun C nw => False) := by
  unfold Call inD
  k_fill
  intro mean mg mb dp un gd cn cs ad ccd outer A₀ base h₀ L m s Q E B F X N T hk hd hu hret hexc
  refine wpAny_call ?_
  k_dflt cell_enter
  k_steps
  refine hret _ _ _ _ ⟨_, rfl, int_eq ?_⟩ (by k_asm) (by k_asm)
  exact u8_val (hb ▸ bInts_in b) a
end
local macro_rules | `(tactic| ktr_rel) => `(tactic| walk_at "mine ktr_rel")
section
theorem news_rot {h₀ h : Heap} {L : Addr} {i x d : Addr × Obj} {rest : List (Addr × Obj)} (N : News h₀ L h (i :: x :: d :: rest)) : News h₀ L h (x :: d :: i :: rest) := fun p hp => N p (by
  simp only [List.mem_cons] at hp ⊢
  rcases hp with rfl | rfl | rfl | hp <;> simp [*])
theorem unrEnd_rot {h₀ h' : Heap} {L I : Addr} {it : Obj} {rest : (Str → Option Value) → List (Addr × Obj) → Prop} {s₁ : Shared} {tk : Nat} {m' : Str → Option Value} {x d : Addr × Obj} {r : List (Addr × Obj)}
    (F : Fr h₀ L h' m') (N : News h₀ L h' (x :: d :: (I, it) :: r)) (off : ∀ p ∈ x :: d :: r, p.1 ≠ I) (q : rest m' (x :: d :: r)) : UnrEnd h₀ L s₁ I it rest { s₁ with heap := h', toks := tk } :=
  UnrEnd.intro F N (x :: d :: r) (fun p hp => by
    simp only [List.mem_cons] at hp ⊢
    rcases hp with rfl | rfl | rfl | hp <;> simp [*]) off q
section
variable {prog : Program} {w : World} {A : Around} {E : Value → Shared → Prop} {s : Shared} {a b : Int} {t u : Tok} {Q : Value → Shared → Prop}
theorem and63 (h : Q (.int (a % 64) s.toks) { s with toks := s.toks + 1 }) : wpAny (model prog w) A (binaryOp .BitAnd (.int a t) (.int 63 u)) Q E s := and_int (by rw [bitAnd_m6]; exact h)
theorem and31 (h : Q (.int (a % 32) s.toks) { s with toks := s.toks + 1 }) : wpAny (model prog w) A (binaryOp .BitAnd (.int a t) (.int 31 u)) Q E s := and_int (by rw [bitAnd_m5]; exact h)
theorem and1 (h : Q (.int (a % 2) s.toks) { s with toks := s.toks + 1 }) : wpAny (model prog w) A (binaryOp .BitAnd (.int a t) (.int 1 u)) Q E s := and_int (by rw [bitAnd_m1]; exact h)
theorem shl8 (h0 : 0 ≤ a) (h1 : a < 1099511627776) (h : Q (.int (a * 256) s.toks) { s with toks := s.toks + 1 }) : wpAny (model prog w) A (binaryOp .LShift (.int a t) (.int 8 u)) Q E s :=
  lshift_int_small (by decide) (by decide) (by omega) (by exact h)
theorem or256 (h0 : 0 ≤ a) (h1 : 0 ≤ b ∧ b < 256) (h : Q (.int (a * 256 + b) s.toks) { s with toks := s.toks + 1 }) : wpAny (model prog w) A (binaryOp .BitOr (.int (a * 256) t) (.int b u)) Q E s :=
  or_int (by rw [bitOr_256 _ _ h0 h1.1 h1.2]; exact h)
theorem shr1 (h0 : 0 ≤ a) (h1 : a < 1099511627776) (h : Q (.int (a / 2) s.toks) { s with toks := s.toks + 1 }) (k : wpAny (model prog w) A (binaryOp .RShift (.int a t) (.int 1 u)) (fun v s' => v = .int (a / 2) s.toks ∧ s' = { s with toks := s.toks + 1 }) E s) : wpAny (model prog w) A (binaryOp .RShift (.int a t) (.int 1 u)) Q E s :=
  wpAny_mono k (fun v s' q => by obtain ⟨rfl, rfl⟩ := q; exact h) fun _ _ x => x
end
theorem raised_sub {base G : Heap} {l : List Env} {e t : Addr} {cls : Value} {vs : List Value} {news news' : List (Addr × Obj)} {h : Heap} (R : RaisedS base G l e cls t vs news h) (hs : ∀ p ∈ news', p ∈ news) : RaisedS base G l e cls t vs news' h := by
  obtain ⟨⟨B, hB, hBG, hl, hfl, hnew⟩, htup⟩ := R
  exact ⟨⟨B, hB, hBG, fun q hq => hl q (hs q hq), hfl, hnew⟩, htup⟩
/-- the number that the octets from a hold, by its width -/
def num (ks : List Int) (a k : Int) : Int :=
  if k = 1 then ks.getD a.toNat 0 else if k = 2 then (ks.getD a.toNat 0 - 128) * 256 + ks.getD (a + 1).toNat 0
  else (((ks.getD a.toNat 0 - 192) * 256 + ks.getD (a + 1).toNat 0) * 256 + ks.getD (a + 1 + 1).toNat 0) * 256 + ks.getD (a + 1 + 1 + 1).toNat 0




theorem w20 : True := by
  k_with_none
  (k_with "call ref" => ((k_here; refine wpAny_call ?_; k_dflt (walk_at "mine enterF"))))
  (k_with "call type:bytes" => ((k_here; (with_reducible show wpAny _ _ (call (Value.type "bytes") [Value.ref _]) _ _ _); k_dflt (refine' Mine.call_bytes_tuple (by k_asm) (by k_asm) (by rfl) (by exact News.isTup (by k_asm) (by k_mem)) (by kba_listInts) ?_ (by kba_size) ?_; rotate_left); intro _ _ _ F' N' kbaIn)))
  (k_with "exec Raise some none" => ((k_here; (with_reducible show wpAny _ _ (exec (Stmt.Raise (some (Expr.Call (Expr.Name ("BadSig" : Str) _) _ _ _)) none _) _) _ _ _); k_dflt (refine Raise_own (C := 63) rfl ?_))))
  (k_with "exec Raise some none" => ((k_here; (with_reducible show wpAny _ _ (exec (Stmt.Raise (some (Expr.Call (Expr.Name ("BadImage" : Str) _) _ _ _)) none _) _) _ _ _); k_dflt (refine Raise_own (C := 51) rfl ?_))))
  (k_with "call ref" => ((k_here; (with_reducible show wpAny _ _ (call (Value.ref _) [_, _]) (RaisableX _ _) _ _); k_dflt (refine' raise_call _ _ _ _ (by first | exact excC_63 _ | exact excC_51 _) (by k_asm) (by k_asm) (by k_asm) (by k_asm) (by k_asm) (by exact rfl) (by ktr_room) (by ktr_units) ?_; k_whole; intro h' tk' e' t' d' F' N' hne' hnt'; (try dsimp only)))))
  (k_with "leaving ref" => ((k_here; first
  | (refine' leave_mine (by assumption) (by assumption) (by assumption) (by assumption) (by assumption) ?_; k_whole; intro h' R' U'; (try dsimp only))
  | (refine' leave_onS (by assumption) (by assumption) (by assumption) (by assumption) ?_; k_whole; intro h' R' RK' U'; (try dsimp only)))))
  (k_with "binaryOp Pow int int" => ((k_here; dsimp only; walk_at "binaryOp Pow int int")))
  (k_with "mine k_all" => (first | assumption | exact ne_lt (by assumption) | exact ne_succ (by assumption) | exact ne_lt (allLt_mem (And.right (by assumption))) | exact ne_lt (allLt_mem (And.right (And.right (by assumption))))))
  (k_with "UnrEnd" => ((refine UnrEnd.intro (by assumption) (by assumption) _ (fun p hp => hp) (ne_lt (allLt_mem (by assumption))) ?_)))
  (k_with "mine ktr_rel" => (first | assumption | exact news_rot (by assumption)))
  (k_with "call ref" => ((k_here; (with_reducible show wpAny _ _ (call (Value.ref 93) [Value.ref _]) _ _ _); k_dflt (first
  | (refine' Call.useR (by k_asm) (by k_asm) (by k_asm) (by ktr_rel) (by k_asm) (by first | exact rfl | assumption) (by ktr_room) (by ktr_units) (u8_ok _ _ _ _ _ _ _ _ _ _ _ _ _ (by assumption) (by k_all) _ (by assumption) (by omega) (by assumption)) ?_ ?_; rotate_left; (intro _ _ _ _ _ _ _ _ z'; exact z'.elim); rotate_right; (intro v' h' tk' nw' R' F' N'; obtain ⟨t2', e0', t', e'⟩ := R'; subst e0'; subst e'; (try dsimp only); (try k_fold)))
  | (refine' Call.useR (by k_asm) (by k_asm) (by k_asm) (by ktr_rel) (by k_asm) (by first | exact rfl | assumption) (by ktr_room) (by ktr_units) (u8_end _ _ _ _ _ _ _ _ _ _ _ _ (by assumption) (by k_all) (by omega)) ?_ ?_; (intro _ _ _ _ z'; exact z'.elim); (intro C' e' t' xs' h' tk' nw' g' Z' FG' R' U'; obtain ⟨e0', e1'⟩ := Z'; subst e0'; subst e1'; (try dsimp only)))))))
  (k_with "UnrEnd" => ((refine unrEnd_rot (by assumption) (by assumption) (ne_lt (allLt_mem (by assumption))) ?_)))
  (k_with "call ref" => ((k_here; (with_reducible show wpAny _ _ (call (Prod.fst _) _) _ _ _); dsimp only [List.cons_append, List.nil_append]; walk_at "call ref")))
  (k_with "binaryOp BitAnd int int" => ((k_here; first | refine and63 ?_ | refine and31 ?_ | refine and1 ?_)))
  (k_with "binaryOp LShift int int" => ((k_here; refine shl8 (by omega) (by omega) ?_)))
  (k_with "binaryOp BitOr int int" => ((k_here; refine or256 (by omega) (by omega) ?_)))
  trivial
theorem tw_1 (w : World) (x dx : Addr) (k1 k2 k3 t1 t2 t3 : Tok) (b : Array UInt8) (a e : Int) (rest : List (Addr × Obj)) (hx : x ≠ dx) (hr : ∀ p ∈ rest, p.1 ≠ dx) (ks : List Int) (hb : KBw.bInts b = ks) (h : 0 ≤ a ∧ a < e ∧ e ≤ ks.length) (hsz : ks.length ≤ 100000)
    (hf : 0 ≤ ks.getD a.toNat 0 ∧ ks.getD a.toNat 0 < 128) :
    Call w 50 191 [.ref x] ((x, instObj 159 dx) :: (dx, inD w k1 k2 k3 b t1 a t2 e t3) :: rest)
    (fun v nw => ∃ n a' t2' T' tn tw, (n = num ks a 1 ∧ a' = a + 1) ∧ nw = (T', { cls := .type "tuple", data := .seq [.int n tn, .int 1 tw].toArray }) :: (x, instObj 159 dx) :: (dx, inD w k1 k2 k3 b t1 a' t2' e t3) :: rest ∧ v = .ref T')
    (fun C nw => False) := by
  unfold Call
  k_fill
  intro mean mg mb dp un gd cn cs ad ccd outer A₀ base h₀ L m s Q E B F X N T hk hd hu hret hexc
  have z0 := KBw.getD_in (j := a.toNat) (hb ▸ bInts_in b : ∀ k ∈ ks, 0 ≤ k ∧ k < 256)
  have z1 := KBw.getD_in (j := (a + 1).toNat) (hb ▸ bInts_in b : ∀ k ∈ ks, 0 ≤ k ∧ k < 256)
  have z2 := KBw.getD_in (j := (a + 1 + 1).toNat) (hb ▸ bInts_in b : ∀ k ∈ ks, 0 ≤ k ∧ k < 256)
  have z3 := KBw.getD_in (j := (a + 1 + 1 + 1).toNat) (hb ▸ bInts_in b : ∀ k ∈ ks, 0 ≤ k ∧ k < 256)
  refine wpAny_call ?_
  k_dflt cell_enter
  k_steps
  exact hret _ _ _ _ ⟨_, _, _, _, _, _, ⟨rfl, rfl⟩, rfl, rfl⟩ (by k_asm) (by k_asm)
theorem tw_2 (w : World) (x dx : Addr) (k1 k2 k3 t1 t2 t3 : Tok) (b : Array UInt8) (a e : Int) (rest : List (Addr × Obj)) (hx : x ≠ dx) (hr : ∀ p ∈ rest, p.1 ≠ dx) (ks : List Int) (hb : KBw.bInts b = ks) (h : 0 ≤ a ∧ a < e ∧ e ≤ ks.length) (hsz : ks.length ≤ 100000)
    (hf : 128 ≤ ks.getD a.toNat 0 ∧ ks.getD a.toNat 0 < 192 ∧ a + 1 < e) :
    Call w 50 191 [.ref x] ((x, instObj 159 dx) :: (dx, inD w k1 k2 k3 b t1 a t2 e t3) :: rest)
    (fun v nw => ∃ n a' t2' T' tn tw, (n = num ks a 2 ∧ a' = a + 2) ∧ nw = (T', { cls := .type "tuple", data := .seq [.int n tn, .int 2 tw].toArray }) :: (x, instObj 159 dx) :: (dx, inD w k1 k2 k3 b t1 a' t2' e t3) :: rest ∧ v = .ref T')
    (fun C nw => False) := by
  unfold Call
  k_fill
  intro mean mg mb dp un gd cn cs ad ccd outer A₀ base h₀ L m s Q E B F X N T hk hd hu hret hexc
  have z0 := KBw.getD_in (j := a.toNat) (hb ▸ bInts_in b : ∀ k ∈ ks, 0 ≤ k ∧ k < 256)
  have z1 := KBw.getD_in (j := (a + 1).toNat) (hb ▸ bInts_in b : ∀ k ∈ ks, 0 ≤ k ∧ k < 256)
  have z2 := KBw.getD_in (j := (a + 1 + 1).toNat) (hb ▸ bInts_in b : ∀ k ∈ ks, 0 ≤ k ∧ k < 256)
  have z3 := KBw.getD_in (j := (a + 1 + 1 + 1).toNat) (hb ▸ bInts_in b : ∀ k ∈ ks, 0 ≤ k ∧ k < 256)
  refine wpAny_call ?_
  k_dflt cell_enter
  k_steps
  refine hret _ _ _ _ ⟨_, _, _, _, _, _, ⟨?_, ?_⟩, rfl, rfl⟩ (by k_asm) (by k_asm)
  · show _ = (ks.getD a.toNat 0 - 128) * 256 + ks.getD (a + 1).toNat 0
    omega
  · omega
theorem tw_4 (w : World) (x dx : Addr) (k1 k2 k3 t1 t2 t3 : Tok) (b : Array UInt8) (a e : Int) (rest : List (Addr × Obj)) (hx : x ≠ dx) (hr : ∀ p ∈ rest, p.1 ≠ dx) (ks : List Int) (hb : KBw.bInts b = ks) (h : 0 ≤ a ∧ a < e ∧ e ≤ ks.length) (hsz : ks.length ≤ 100000)
    (hf : 192 ≤ ks.getD a.toNat 0 ∧ ks.getD a.toNat 0 < 224 ∧ a + 3 < e) :
    Call w 50 191 [.ref x] ((x, instObj 159 dx) :: (dx, inD w k1 k2 k3 b t1 a t2 e t3) :: rest)
    (fun v nw => ∃ n a' t2' T' tn tw, (n = num ks a 4 ∧ a' = a + 4) ∧ nw = (T', { cls := .type "tuple", data := .seq [.int n tn, .int 4 tw].toArray }) :: (x, instObj 159 dx) :: (dx, inD w k1 k2 k3 b t1 a' t2' e t3) :: rest ∧ v = .ref T')
    (fun C nw => False) := by
  unfold Call
  k_fill
  intro mean mg mb dp un gd cn cs ad ccd outer A₀ base h₀ L m s Q E B F X N T hk hd hu hret hexc
  have z0 := KBw.getD_in (j := a.toNat) (hb ▸ bInts_in b : ∀ k ∈ ks, 0 ≤ k ∧ k < 256)
  have z1 := KBw.getD_in (j := (a + 1).toNat) (hb ▸ bInts_in b : ∀ k ∈ ks, 0 ≤ k ∧ k < 256)
  have z2 := KBw.getD_in (j := (a + 1 + 1).toNat) (hb ▸ bInts_in b : ∀ k ∈ ks, 0 ≤ k ∧ k < 256)
  have z3 := KBw.getD_in (j := (a + 1 + 1 + 1).toNat) (hb ▸ bInts_in b : ∀ k ∈ ks, 0 ≤ k ∧ k < 256)
  refine wpAny_call ?_
  k_dflt cell_enter
  k_steps
  refine hret _ _ _ _ ⟨_, _, _, _, _, _, ⟨?_, ?_⟩, rfl, rfl⟩ (by k_asm) (by k_asm)
  · show _ = (((ks.getD a.toNat 0 - 192) * 256 + ks.getD (a + 1).toNat 0) * 256 + ks.getD (a + 1 + 1).toNat 0) * 256 + ks.getD (a + 1 + 1 + 1).toNat 0
    omega
  · omega
theorem tw_bad (w : World) (x dx : Addr) (k1 k2 k3 t1 t2 t3 : Tok) (b : Array UInt8) (a e : Int) (rest : List (Addr × Obj)) (hx : x ≠ dx) (hr : ∀ p ∈ rest, p.1 ≠ dx) (ks : List Int) (hb : KBw.bInts b = ks) (h : 0 ≤ a ∧ a < e ∧ e ≤ ks.length) (hsz : ks.length ≤ 100000)
    (hf : 224 ≤ ks.getD a.toNat 0) :
    Call w 50 191 [.ref x] ((x, instObj 159 dx) :: (dx, inD w k1 k2 k3 b t1 a t2 e t3) :: rest)
    (fun v nw => False)
    (fun C nw => nw = rest ∧ C = 63) := by
  unfold Call
  k_fill
  intro mean mg mb dp un gd cn cs ad ccd outer A₀ base h₀ L m s Q E B F X N T hk hd hu hret hexc
  have z0 := KBw.getD_in (j := a.toNat) (hb ▸ bInts_in b : ∀ k ∈ ks, 0 ≤ k ∧ k < 256)
  have z1 := KBw.getD_in (j := (a + 1).toNat) (hb ▸ bInts_in b : ∀ k ∈ ks, 0 ≤ k ∧ k < 256)
  have z2 := KBw.getD_in (j := (a + 1 + 1).toNat) (hb ▸ bInts_in b : ∀ k ∈ ks, 0 ≤ k ∧ k < 256)
  have z3 := KBw.getD_in (j := (a + 1 + 1 + 1).toNat) (hb ▸ bInts_in b : ∀ k ∈ ks, 0 ≤ k ∧ k < 256)
  refine wpAny_call ?_
  k_dflt cell_enter
  k_steps
  exact hexc _ _ _ _ _ _ _ _ ⟨rfl, rfl⟩ (by assumption) (raised_sub (by assumption) fun p hp => .tail _ (.tail _ hp)) (by assumption)
theorem tw_end2 (w : World) (x dx : Addr) (k1 k2 k3 t1 t2 t3 : Tok) (b : Array UInt8) (a e : Int) (rest : List (Addr × Obj)) (hx : x ≠ dx) (hr : ∀ p ∈ rest, p.1 ≠ dx) (ks : List Int) (hb : KBw.bInts b = ks) (h : 0 ≤ a ∧ a < e ∧ e ≤ ks.length) (hsz : ks.length ≤ 100000)
    (hf : 128 ≤ ks.getD a.toNat 0 ∧ ks.getD a.toNat 0 < 192 ∧ a + 1 = e) :
    Call w 50 191 [.ref x] ((x, instObj 159 dx) :: (dx, inD w k1 k2 k3 b t1 a t2 e t3) :: rest)
    (fun v nw => False)
    (fun C nw => nw = rest ∧ C = 51) := by
  unfold Call
  k_fill
  intro mean mg mb dp un gd cn cs ad ccd outer A₀ base h₀ L m s Q E B F X N T hk hd hu hret hexc
  have z0 := KBw.getD_in (j := a.toNat) (hb ▸ bInts_in b : ∀ k ∈ ks, 0 ≤ k ∧ k < 256)
  have z1 := KBw.getD_in (j := (a + 1).toNat) (hb ▸ bInts_in b : ∀ k ∈ ks, 0 ≤ k ∧ k < 256)
  have z2 := KBw.getD_in (j := (a + 1 + 1).toNat) (hb ▸ bInts_in b : ∀ k ∈ ks, 0 ≤ k ∧ k < 256)
  have z3 := KBw.getD_in (j := (a + 1 + 1 + 1).toNat) (hb ▸ bInts_in b : ∀ k ∈ ks, 0 ≤ k ∧ k < 256)
  refine wpAny_call ?_
  k_dflt cell_enter
  k_steps
  exact hexc _ _ _ _ _ _ _ _ ⟨rfl, rfl⟩ (by assumption) (raised_sub (by assumption) fun p hp => .tail _ (.tail _ hp)) (by assumption)
theorem tw_end4a (w : World) (x dx : Addr) (k1 k2 k3 t1 t2 t3 : Tok) (b : Array UInt8) (a e : Int) (rest : List (Addr × Obj)) (hx : x ≠ dx) (hr : ∀ p ∈ rest, p.1 ≠ dx) (ks : List Int) (hb : KBw.bInts b = ks) (h : 0 ≤ a ∧ a < e ∧ e ≤ ks.length) (hsz : ks.length ≤ 100000)
    (hf : 192 ≤ ks.getD a.toNat 0 ∧ ks.getD a.toNat 0 < 224 ∧ a + 1 = e) :
    Call w 50 191 [.ref x] ((x, instObj 159 dx) :: (dx, inD w k1 k2 k3 b t1 a t2 e t3) :: rest)
    (fun v nw => False)
    (fun C nw => nw = rest ∧ C = 51) := by
  unfold Call
  k_fill
  intro mean mg mb dp un gd cn cs ad ccd outer A₀ base h₀ L m s Q E B F X N T hk hd hu hret hexc
  have z0 := KBw.getD_in (j := a.toNat) (hb ▸ bInts_in b : ∀ k ∈ ks, 0 ≤ k ∧ k < 256)
  have z1 := KBw.getD_in (j := (a + 1).toNat) (hb ▸ bInts_in b : ∀ k ∈ ks, 0 ≤ k ∧ k < 256)
  have z2 := KBw.getD_in (j := (a + 1 + 1).toNat) (hb ▸ bInts_in b : ∀ k ∈ ks, 0 ≤ k ∧ k < 256)
  have z3 := KBw.getD_in (j := (a + 1 + 1 + 1).toNat) (hb ▸ bInts_in b : ∀ k ∈ ks, 0 ≤ k ∧ k < 256)
  refine wpAny_call ?_
  k_dflt cell_enter
  k_steps
  exact hexc _ _ _ _ _ _ _ _ ⟨rfl, rfl⟩ (by assumption) (raised_sub (by assumption) fun p hp => by simp [hp]) (by assumption)
theorem tw_end4b (w : World) (x dx : Addr) (k1 k2 k3 t1 t2 t3 : Tok) (b : Array UInt8) (a e : Int) (rest : List (Addr × Obj)) (hx : x ≠ dx) (hr : ∀ p ∈ rest, p.1 ≠ dx) (ks : List Int) (hb : KBw.bInts b = ks) (h : 0 ≤ a ∧ a < e ∧ e ≤ ks.length) (hsz : ks.length ≤ 100000)
    (hf : 192 ≤ ks.getD a.toNat 0 ∧ ks.getD a.toNat 0 < 224 ∧ a + 2 = e) :
    Call w 50 191 [.ref x] ((x, instObj 159 dx) :: (dx, inD w k1 k2 k3 b t1 a t2 e t3) :: rest)
    (fun v nw => False)
    (fun C nw => nw = rest ∧ C = 51) := by
  unfold Call
  k_fill
  intro mean mg mb dp un gd cn cs ad ccd outer A₀ base h₀ L m s Q E B F X N T hk hd hu hret hexc
  have z0 := KBw.getD_in (j := a.toNat) (hb ▸ bInts_in b : ∀ k ∈ ks, 0 ≤ k ∧ k < 256)
  have z1 := KBw.getD_in (j := (a + 1).toNat) (hb ▸ bInts_in b : ∀ k ∈ ks, 0 ≤ k ∧ k < 256)
  have z2 := KBw.getD_in (j := (a + 1 + 1).toNat) (hb ▸ bInts_in b : ∀ k ∈ ks, 0 ≤ k ∧ k < 256)
  have z3 := KBw.getD_in (j := (a + 1 + 1 + 1).toNat) (hb ▸ bInts_in b : ∀ k ∈ ks, 0 ≤ k ∧ k < 256)
  refine wpAny_call ?_
  k_dflt cell_enter
  k_steps
  exact hexc _ _ _ _ _ _ _ _ ⟨rfl, rfl⟩ (by assumption) (raised_sub (by assumption) fun p hp => by simp [hp]) (by assumption)
theorem tw_end4c (w : World) (x dx : Addr) (k1 k2 k3 t1 t2 t3 : Tok) (b : Array UInt8) (a e : Int) (rest : List (Addr × Obj)) (hx : x ≠ dx) (hr : ∀ p ∈ rest, p.1 ≠ dx) (ks : List Int) (hb : KBw.bInts b = ks) (h : 0 ≤ a ∧ a < e ∧ e ≤ ks.length) (hsz : ks.length ≤ 100000)
    (hf : 192 ≤ ks.getD a.toNat 0 ∧ ks.getD a.toNat 0 < 224 ∧ a + 3 = e) :
    Call w 50 191 [.ref x] ((x, instObj 159 dx) :: (dx, inD w k1 k2 k3 b t1 a t2 e t3) :: rest)
    (fun v nw => False)
    (fun C nw => nw = rest ∧ C = 51) := by
  unfold Call
  k_fill
  intro mean mg mb dp un gd cn cs ad ccd outer A₀ base h₀ L m s Q E B F X N T hk hd hu hret hexc
  have z0 := KBw.getD_in (j := a.toNat) (hb ▸ bInts_in b : ∀ k ∈ ks, 0 ≤ k ∧ k < 256)
  have z1 := KBw.getD_in (j := (a + 1).toNat) (hb ▸ bInts_in b : ∀ k ∈ ks, 0 ≤ k ∧ k < 256)
  have z2 := KBw.getD_in (j := (a + 1 + 1).toNat) (hb ▸ bInts_in b : ∀ k ∈ ks, 0 ≤ k ∧ k < 256)
  have z3 := KBw.getD_in (j := (a + 1 + 1 + 1).toNat) (hb ▸ bInts_in b : ∀ k ∈ ks, 0 ≤ k ∧ k < 256)
  refine wpAny_call ?_
  k_dflt cell_enter
  k_steps
  exact hexc _ _ _ _ _ _ _ _ ⟨rfl, rfl⟩ (by assumption) (raised_sub (by assumption) fun p hp => by simp [hp]) (by assumption)
theorem tw_end0 (w : World) (x dx : Addr) (k1 k2 k3 t1 t2 t3 : Tok) (b : Array UInt8) (a e : Int) (rest : List (Addr × Obj)) (hx : x ≠ dx) (hr : ∀ p ∈ rest, p.1 ≠ dx) (ks : List Int) (hb : KBw.bInts b = ks) (h : 0 ≤ a ∧ a = e ∧ e ≤ ks.length) (hsz : ks.length ≤ 100000) :
    Call w 50 191 [.ref x] ((x, instObj 159 dx) :: (dx, inD w k1 k2 k3 b t1 a t2 e t3) :: rest)
    (fun v nw => False)
    (fun C nw => nw = rest ∧ C = 51) := by
  unfold Call
  k_fill
  intro mean mg mb dp un gd cn cs ad ccd outer A₀ base h₀ L m s Q E B F X N T hk hd hu hret hexc
  have z0 := KBw.getD_in (j := a.toNat) (hb ▸ bInts_in b : ∀ k ∈ ks, 0 ≤ k ∧ k < 256)
  have z1 := KBw.getD_in (j := (a + 1).toNat) (hb ▸ bInts_in b : ∀ k ∈ ks, 0 ≤ k ∧ k < 256)
  have z2 := KBw.getD_in (j := (a + 1 + 1).toNat) (hb ▸ bInts_in b : ∀ k ∈ ks, 0 ≤ k ∧ k < 256)
  have z3 := KBw.getD_in (j := (a + 1 + 1 + 1).toNat) (hb ▸ bInts_in b : ∀ k ∈ ks, 0 ≤ k ∧ k < 256)
  refine wpAny_call ?_
  k_dflt cell_enter
  k_steps
  exact hexc _ _ _ _ _ _ _ _ ⟨rfl, rfl⟩ (by assumption) (raised_sub (by assumption) fun p hp => .tail _ (.tail _ hp)) (by assumption)

end
section
/-- the octets from a hold a number of that width -/
def HasNum (ks : List Int) (a e k : Int) : Prop :=
  (k = 1 ∧ 0 ≤ ks.getD a.toNat 0 ∧ ks.getD a.toNat 0 < 128 ∧ a < e) ∨ (k = 2 ∧ 128 ≤ ks.getD a.toNat 0 ∧ ks.getD a.toNat 0 < 192 ∧ a + 1 < e) ∨ (k = 4 ∧ 192 ≤ ks.getD a.toNat 0 ∧ ks.getD a.toNat 0 < 224 ∧ a + 3 < e)
/-- they end too early -/
def TooFew (ks : List Int) (a e : Int) : Prop :=
  a = e ∨ (a + 1 = e ∧ 128 ≤ ks.getD a.toNat 0 ∧ ks.getD a.toNat 0 < 192) ∨ ((a + 1 = e ∨ a + 2 = e ∨ a + 3 = e) ∧ 192 ≤ ks.getD a.toNat 0 ∧ ks.getD a.toNat 0 < 224)
/-- an In as the reads find it -/
structure InOk (x dx : Addr) (rest : List (Addr × Obj)) (b : Array UInt8) (ks : List Int) (a e : Int) : Prop where
  ne : x ≠ dx
  off : ∀ p ∈ rest, p.1 ≠ dx
  kb : KBw.bInts b = ks
  lo : 0 ≤ a
  le : a ≤ e
  hi : e ≤ ks.length
  size : ks.length ≤ 100000
section
variable {w : World} {x dx : Addr} {k1 k2 k3 t1 t2 t3 : Tok} {b : Array UInt8} {a e : Int} {rest : List (Addr × Obj)} {ks : List Int}
theorem tw_ok {k : Int} (I : InOk x dx rest b ks a e) (h : HasNum ks a e k) :
    Call w 50 191 [.ref x] ((x, instObj 159 dx) :: (dx, inD w k1 k2 k3 b t1 a t2 e t3) :: rest)
    (fun v nw => ∃ n a' t2' T' tn tw, (n = num ks a k ∧ a' = a + k) ∧ nw = (T', { cls := .type "tuple", data := .seq [.int n tn, .int k tw].toArray }) :: (x, instObj 159 dx) :: (dx, inD w k1 k2 k3 b t1 a' t2' e t3) :: rest ∧ v = .ref T')
    (fun C nw => False) := by
  have := I.lo
  rcases h with ⟨rfl, h1, h2, h3⟩ | ⟨rfl, h1, h2, h3⟩ | ⟨rfl, h1, h2, h3⟩
  · exact tw_1 w x dx k1 k2 k3 t1 t2 t3 b a e rest I.ne I.off ks I.kb ⟨I.lo, h3, I.hi⟩ I.size ⟨h1, h2⟩
  · exact tw_2 w x dx k1 k2 k3 t1 t2 t3 b a e rest I.ne I.off ks I.kb ⟨I.lo, by omega, I.hi⟩ I.size ⟨h1, h2, h3⟩
  · exact tw_4 w x dx k1 k2 k3 t1 t2 t3 b a e rest I.ne I.off ks I.kb ⟨I.lo, by omega, I.hi⟩ I.size ⟨h1, h2, h3⟩
theorem tw_end (I : InOk x dx rest b ks a e) (h : TooFew ks a e) :
    Call w 50 191 [.ref x] ((x, instObj 159 dx) :: (dx, inD w k1 k2 k3 b t1 a t2 e t3) :: rest) (fun v nw => False) (fun C nw => nw = rest ∧ C = 51) := by
  have := I.lo
  rcases h with rfl | ⟨h1, h2, h3⟩ | ⟨h1 | h1 | h1, h2, h3⟩
  · exact tw_end0 w x dx k1 k2 k3 t1 t2 t3 b a a rest I.ne I.off ks I.kb ⟨I.lo, rfl, I.hi⟩ I.size
  · exact tw_end2 w x dx k1 k2 k3 t1 t2 t3 b a e rest I.ne I.off ks I.kb ⟨I.lo, by omega, I.hi⟩ I.size ⟨h2, h3, h1⟩
  · exact tw_end4a w x dx k1 k2 k3 t1 t2 t3 b a e rest I.ne I.off ks I.kb ⟨I.lo, by omega, I.hi⟩ I.size ⟨h2, h3, h1⟩
  · exact tw_end4b w x dx k1 k2 k3 t1 t2 t3 b a e rest I.ne I.off ks I.kb ⟨I.lo, by omega, I.hi⟩ I.size ⟨h2, h3, h1⟩
  · exact tw_end4c w x dx k1 k2 k3 t1 t2 t3 b a e rest I.ne I.off ks I.kb ⟨I.lo, by omega, I.hi⟩ I.size ⟨h2, h3, h1⟩
theorem tw_sig (I : InOk x dx rest b ks a e) (h : a < e ∧ 224 ≤ ks.getD a.toNat 0) :
    Call w 50 191 [.ref x] ((x, instObj 159 dx) :: (dx, inD w k1 k2 k3 b t1 a t2 e t3) :: rest) (fun v nw => False) (fun C nw => nw = rest ∧ C = 63) :=
  tw_bad w x dx k1 k2 k3 t1 t2 t3 b a e rest I.ne I.off ks I.kb ⟨I.lo, h.1, I.hi⟩ I.size h.2
end

end
section
theorem num_in {ks : List Int} {a e k : Int} (hin : ∀ x ∈ ks, 0 ≤ x ∧ x < 256) (h : HasNum ks a e k) : 0 ≤ num ks a k ∧ num ks a k < 536870912 := by
  have z0 := KBw.getD_in (j := a.toNat) hin
  have z1 := KBw.getD_in (j := (a + 1).toNat) hin
  have z2 := KBw.getD_in (j := (a + 1 + 1).toNat) hin
  have z3 := KBw.getD_in (j := (a + 1 + 1 + 1).toNat) hin
  rcases h with ⟨rfl, h1, h2, h3⟩ | ⟨rfl, h1, h2, h3⟩ | ⟨rfl, h1, h2, h3⟩
  · exact ⟨h1, show ks.getD a.toNat 0 < 536870912 by omega⟩
  · have e2 : num ks a 2 = (ks.getD a.toNat 0 - 128) * 256 + ks.getD (a + 1).toNat 0 := rfl
    rw [e2]; omega
  · have e4 : num ks a 4 = (((ks.getD a.toNat 0 - 192) * 256 + ks.getD (a + 1).toNat 0) * 256 + ks.getD (a + 1 + 1).toNat 0) * 256 + ks.getD (a + 1 + 1 + 1).toNat 0 := rfl
    rw [e4]; omega
theorem ri_odd (n : Int) (j : Nat) (h : ¬ n % 2 = 0) : n.fdiv (2 ^ Int.toNat 1) - 1 * 2 ^ j = n / 2 - n % 2 * 2 ^ j := by
  rw [show n % 2 = 1 from by omega, show Int.toNat 1 = 1 from rfl, fdiv_pow, Int.pow_one]
theorem ri_even (n : Int) (j : Nat) (h : n % 2 = 0) : n.fdiv (2 ^ Int.toNat 1) = n / 2 - n % 2 * 2 ^ j := by
  rw [h, Int.zero_mul, Int.sub_zero, show Int.toNat 1 = 1 from rfl, fdiv_pow, Int.pow_one]

theorem w21 : True := by
  k_with_none
  (k_with "call ref" => ((k_here; refine wpAny_call ?_; k_dflt (walk_at "mine enterF"))))
  (k_with "call type:bytes" => ((k_here; (with_reducible show wpAny _ _ (call (Value.type "bytes") [Value.ref _]) _ _ _); k_dflt (refine' Mine.call_bytes_tuple (by k_asm) (by k_asm) (by rfl) (by exact News.isTup (by k_asm) (by k_mem)) (by kba_listInts) ?_ (by kba_size) ?_; rotate_left); intro _ _ _ F' N' kbaIn)))
  (k_with "exec Raise some none" => ((k_here; (with_reducible show wpAny _ _ (exec (Stmt.Raise (some (Expr.Call (Expr.Name ("BadSig" : Str) _) _ _ _)) none _) _) _ _ _); k_dflt (refine Raise_own (C := 63) rfl ?_))))
  (k_with "exec Raise some none" => ((k_here; (with_reducible show wpAny _ _ (exec (Stmt.Raise (some (Expr.Call (Expr.Name ("BadImage" : Str) _) _ _ _)) none _) _) _ _ _); k_dflt (refine Raise_own (C := 51) rfl ?_))))
  (k_with "call ref" => ((k_here; (with_reducible show wpAny _ _ (call (Value.ref _) [_, _]) (RaisableX _ _) _ _); k_dflt (refine' raise_call _ _ _ _ (by first | exact excC_63 _ | exact excC_51 _) (by k_asm) (by k_asm) (by k_asm) (by k_asm) (by k_asm) (by exact rfl) (by ktr_room) (by ktr_units) ?_; k_whole; intro h' tk' e' t' d' F' N' hne' hnt'; (try dsimp only)))))
  (k_with "leaving ref" => ((k_here; first
  | (refine' leave_mine (by assumption) (by assumption) (by assumption) (by assumption) (by assumption) ?_; k_whole; intro h' R' U'; (try dsimp only))
  | (refine' leave_onS (by assumption) (by assumption) (by assumption) (by assumption) ?_; k_whole; intro h' R' RK' U'; (try dsimp only)))))
  (k_with "binaryOp Pow int int" => ((k_here; dsimp only; walk_at "binaryOp Pow int int")))
  (k_with "mine k_all" => (first | assumption | exact ne_lt (by assumption) | exact ne_succ (by assumption) | exact ne_lt (allLt_mem (And.right (by assumption))) | exact ne_lt (allLt_mem (And.right (And.right (by assumption))))))
  (k_with "call ref" => ((k_here; (with_reducible show wpAny _ _ (call (Value.ref 191) [Value.ref _]) _ _ _); k_dflt (first
  | (refine' Call.useR (by k_asm) (by k_asm) (by k_asm) (by k_asm) (by k_asm) (by first | exact rfl | assumption) (by ktr_room) (by ktr_units) (tw_ok (by assumption) (by assumption)) ?_ ?_; rotate_left; (intro _ _ _ _ _ _ _ _ z'; exact z'.elim); rotate_right; (intro v' h' tk' nw' R' F' N'; obtain ⟨n', a', t2', T', tn', tw', ⟨en', ea'⟩, e0', e'⟩ := R'; subst e0'; subst e'; subst ea'; (try dsimp only); (try k_fold)))
  | (refine' Call.useR (by k_asm) (by k_asm) (by k_asm) (by k_asm) (by k_asm) (by first | exact rfl | assumption) (by ktr_room) (by ktr_units) (tw_end (by assumption) (by assumption)) ?_ ?_; (intro _ _ _ _ z'; exact z'.elim); (intro C' e' t' xs' h' tk' nw' g' Z' FG' R' U'; obtain ⟨e0', e1'⟩ := Z'; subst e0'; subst e1'; (try dsimp only)))
  | (refine' Call.useR (by k_asm) (by k_asm) (by k_asm) (by k_asm) (by k_asm) (by first | exact rfl | assumption) (by ktr_room) (by ktr_units) (tw_sig (by assumption) (by assumption)) ?_ ?_; (intro _ _ _ _ z'; exact z'.elim); (intro C' e' t' xs' h' tk' nw' g' Z' FG' R' U'; obtain ⟨e0', e1'⟩ := Z'; subst e0'; subst e1'; (try dsimp only)))))))
  (k_with "eval Call" => ((k_here; (with_reducible show wpAny _ _ (eval (Expr.Call (Expr.Name ("take_wide" : Str) _) _ _ _) _) _ _ _); k_dflt (refine Call_Name (by rfl) ?_))))
  (k_with "call ref" => ((k_here; (with_reducible show wpAny _ _ (call (Value.ref 177) [Value.int _ _]) _ _ _); k_dflt ((refine' Call.useR (by k_asm) (by k_asm) (by k_asm) (by k_asm) (by k_asm) (by first | exact rfl | assumption) (by ktr_room) (by ktr_units) (uint_width_ok _ _ _ _) ?_ ?_; rotate_left; (intro C' e' t' xs' h' tk' nw' g' Z' FG' R' U'; obtain ⟨e0', e1', hf'⟩ := Z'; subst e0'; subst e1'; (try dsimp only)); rotate_right; (intro v' h' tk' nw' R' F' N'; obtain ⟨e0', ⟨t', e'⟩, hf'⟩ := R'; subst e0'; subst e'; (try dsimp only); (try k_fold)))))))
  (k_with "call ref" => ((k_here; (with_reducible show wpAny _ _ (call (Value.ref 219) [Value.int _ _]) _ _ _); k_dflt ((refine Pure.useR (by k_asm) (by k_asm) (by k_asm) (by k_asm) (by k_asm) (by first | exact rfl | assumption) (by ktr_room) (by ktr_units) (width_bits_ok _ _ _) ?_; k_whole; intro v' h' tk' R' F' N'; first | (obtain ⟨t', e'⟩ := R'; subst e') | (obtain ⟨z', hz', t', e'⟩ := R'; subst e') | subst R'; (try dsimp only); (try k_fold))))))
  (k_with "eval Call" => ((k_here; (with_reducible show wpAny _ _ (eval (Expr.Call (Expr.Name ("uint_width" : Str) _) _ _ _) _) _ _ _); k_dflt (refine Call_Name (by rfl) ?_))))
  (k_with "eval Call" => ((k_here; (with_reducible show wpAny _ _ (eval (Expr.Call (Expr.Name ("width_bits" : Str) _) _ _ _) _) _ _ _); k_dflt (refine Call_Name (by rfl) ?_))))
  (k_with "binaryOp BitAnd int int" => ((k_here; refine and1 ?_)))
  trivial
section
variable {w : World} {x dx : Addr} {k1 k2 k3 t1 t2 t3 : Tok} {b : Array UInt8} {a e : Int} {rest : List (Addr × Obj)} {ks : List Int}
theorem ru_ok {k : Int} (I : InOk x dx rest b ks a e) (h : HasNum ks a e k) :
    Call w 60 198 [.ref x] ((x, instObj 159 dx) :: (dx, inD w k1 k2 k3 b t1 a t2 e t3) :: rest)
    (fun v nw => ∃ n t2' tn, n = num ks a k ∧ nw = (x, instObj 159 dx) :: (dx, inD w k1 k2 k3 b t1 (a + k) t2' e t3) :: rest ∧ v = .int n tn)
    (fun C nw => False) := by
  unfold Call
  k_fill
  intro mean mg mb dp un gd cn cs ad ccd outer A₀ base h₀ L m s Q E B F X N T hk hd hu hret hexc
  refine wpAny_call ?_
  k_dflt cell_enter
  k_steps
  exact hret _ _ _ _ ⟨_, _, _, by assumption, rfl, rfl⟩ (by k_asm) (cb_drop (by assumption) fun p hp => .tail _ hp)
theorem ru_end (I : InOk x dx rest b ks a e) (h : TooFew ks a e) :
    Call w 60 198 [.ref x] ((x, instObj 159 dx) :: (dx, inD w k1 k2 k3 b t1 a t2 e t3) :: rest) (fun v nw => False) (fun C nw => nw = rest ∧ C = 51) := by
  unfold Call
  k_fill
  intro mean mg mb dp un gd cn cs ad ccd outer A₀ base h₀ L m s Q E B F X N T hk hd hu hret hexc
  refine wpAny_call ?_
  k_dflt cell_enter
  k_steps
  exact hexc _ _ _ _ _ _ _ _ ⟨rfl, rfl⟩ (by assumption) (by assumption) (by assumption)
theorem ru_sig (I : InOk x dx rest b ks a e) (h : a < e ∧ 224 ≤ ks.getD a.toNat 0) :
    Call w 60 198 [.ref x] ((x, instObj 159 dx) :: (dx, inD w k1 k2 k3 b t1 a t2 e t3) :: rest) (fun v nw => False) (fun C nw => nw = rest ∧ C = 63) := by
  unfold Call
  k_fill
  intro mean mg mb dp un gd cn cs ad ccd outer A₀ base h₀ L m s Q E B F X N T hk hd hu hret hexc
  refine wpAny_call ?_
  k_dflt cell_enter
  k_steps
  exact hexc _ _ _ _ _ _ _ _ ⟨rfl, rfl⟩ (by assumption) (by assumption) (by assumption)
theorem rs_end (I : InOk x dx rest b ks a e) (h : TooFew ks a e) :
    Call w 60 205 [.ref x] ((x, instObj 159 dx) :: (dx, inD w k1 k2 k3 b t1 a t2 e t3) :: rest) (fun v nw => False) (fun C nw => nw = rest ∧ C = 51) := by
  unfold Call
  k_fill
  intro mean mg mb dp un gd cn cs ad ccd outer A₀ base h₀ L m s Q E B F X N T hk hd hu hret hexc
  refine wpAny_call ?_
  k_dflt cell_enter
  k_steps
  exact hexc _ _ _ _ _ _ _ _ ⟨rfl, rfl⟩ (by assumption) (by assumption) (by assumption)
theorem rs_sig (I : InOk x dx rest b ks a e) (h : a < e ∧ 224 ≤ ks.getD a.toNat 0) :
    Call w 60 205 [.ref x] ((x, instObj 159 dx) :: (dx, inD w k1 k2 k3 b t1 a t2 e t3) :: rest) (fun v nw => False) (fun C nw => nw = rest ∧ C = 63) := by
  unfold Call
  k_fill
  intro mean mg mb dp un gd cn cs ad ccd outer A₀ base h₀ L m s Q E B F X N T hk hd hu hret hexc
  refine wpAny_call ?_
  k_dflt cell_enter
  k_steps
  exact hexc _ _ _ _ _ _ _ _ ⟨rfl, rfl⟩ (by assumption) (by assumption) (by assumption)
theorem ri_end (I : InOk x dx rest b ks a e) (h : TooFew ks a e) :
    Call w 60 233 [.ref x] ((x, instObj 159 dx) :: (dx, inD w k1 k2 k3 b t1 a t2 e t3) :: rest) (fun v nw => False) (fun C nw => nw = rest ∧ C = 51) := by
  unfold Call
  k_fill
  intro mean mg mb dp un gd cn cs ad ccd outer A₀ base h₀ L m s Q E B F X N T hk hd hu hret hexc
  refine wpAny_call ?_
  k_dflt cell_enter
  k_steps
  exact hexc _ _ _ _ _ _ _ _ ⟨rfl, rfl⟩ (by assumption) (by assumption) (by assumption)
theorem ri_sig (I : InOk x dx rest b ks a e) (h : a < e ∧ 224 ≤ ks.getD a.toNat 0) :
    Call w 60 233 [.ref x] ((x, instObj 159 dx) :: (dx, inD w k1 k2 k3 b t1 a t2 e t3) :: rest) (fun v nw => False) (fun C nw => nw = rest ∧ C = 63) := by
  unfold Call
  k_fill
  intro mean mg mb dp un gd cn cs ad ccd outer A₀ base h₀ L m s Q E B F X N T hk hd hu hret hexc
  refine wpAny_call ?_
  k_dflt cell_enter
  k_steps
  exact hexc _ _ _ _ _ _ _ _ ⟨rfl, rfl⟩ (by assumption) (by assumption) (by assumption)
theorem rs_ok {k : Int} (I : InOk x dx rest b ks a e) (h : HasNum ks a e k) (hs : uw (num ks a k) = k) :
    Call w 60 205 [.ref x] ((x, instObj 159 dx) :: (dx, inD w k1 k2 k3 b t1 a t2 e t3) :: rest)
    (fun v nw => ∃ n t2' tn, n = num ks a k ∧ nw = (x, instObj 159 dx) :: (dx, inD w k1 k2 k3 b t1 (a + k) t2' e t3) :: rest ∧ v = .int n tn)
    (fun C nw => False) := by
  unfold Call
  k_fill
  intro mean mg mb dp un gd cn cs ad ccd outer A₀ base h₀ L m s Q E B F X N T hk hd hu hret hexc
  refine wpAny_call ?_
  k_dflt cell_enter
  have hn := num_in (I.kb ▸ bInts_in b) h
  k_steps
  all_goals rename (_ = num _ _ _) => hen
  · exact absurd (hen ▸ hs) (by assumption)
  · exact hret _ _ _ _ ⟨_, _, _, by assumption, rfl, rfl⟩ (by k_asm) (cb_drop (by assumption) fun p hp => .tail _ hp)
  · exfalso; rw [← hen] at hn; exact (by assumption : ¬ _) hn
theorem rs_long {k : Int} (I : InOk x dx rest b ks a e) (h : HasNum ks a e k) (hs : uw (num ks a k) ≠ k) :
    Call w 60 205 [.ref x] ((x, instObj 159 dx) :: (dx, inD w k1 k2 k3 b t1 a t2 e t3) :: rest) (fun v nw => False) (fun C nw => nw = rest ∧ C = 63) := by
  unfold Call
  k_fill
  intro mean mg mb dp un gd cn cs ad ccd outer A₀ base h₀ L m s Q E B F X N T hk hd hu hret hexc
  refine wpAny_call ?_
  k_dflt cell_enter
  have hn := num_in (I.kb ▸ bInts_in b) h
  k_steps
  all_goals rename (_ = num _ _ _) => hen
  · exact hexc _ _ _ _ _ _ _ _ ⟨rfl, rfl⟩ (by assumption) (raised_sub (by assumption) fun p hp => by simp [hp]) (by assumption)
  · exact absurd (by assumption) (hen ▸ hs)
  · exfalso; rw [← hen] at hn; exact (by assumption : ¬ _) hn
theorem ri_ok {k : Int} (I : InOk x dx rest b ks a e) (h : HasNum ks a e k) :
    Call w 60 233 [.ref x] ((x, instObj 159 dx) :: (dx, inD w k1 k2 k3 b t1 a t2 e t3) :: rest)
    (fun v nw => ∃ n t2' tn, n = num ks a k / 2 - num ks a k % 2 * 2 ^ (wb k - 1).toNat ∧ nw = (x, instObj 159 dx) :: (dx, inD w k1 k2 k3 b t1 (a + k) t2' e t3) :: rest ∧ v = .int n tn)
    (fun C nw => False) := by
  unfold Call
  k_fill
  intro mean mg mb dp un gd cn cs ad ccd outer A₀ base h₀ L m s Q E B F X N T hk hd hu hret hexc
  refine wpAny_call ?_
  k_dflt cell_enter
  have hn := num_in (I.kb ▸ bInts_in b) h
  k_steps
  all_goals rename (_ = num _ _ _) => hen
  · exact hret _ _ _ _ ⟨_, _, _, (ri_odd _ _ (by first | assumption | omega)).trans (by rw [hen]), rfl, rfl⟩ (by k_asm) (cb_drop (by assumption) fun p hp => .tail _ hp)
  · exact hret _ _ _ _ ⟨_, _, _, (ri_even _ _ (by first | assumption | omega)).trans (by rw [hen]), rfl, rfl⟩ (by k_asm) (cb_drop (by assumption) fun p hp => .tail _ hp)
end

end
local macro_rules | `(tactic| walk_at "mine enterS") => `(tactic| (refine' code_defS0 ?k1 ?k2 ?k3 ?k4 ?k5 ?kA ?k6 ?k7 ?k8 ?k9 ?kB ?_ ?kK ?c2 ?c3 ?c4 ?c5; (case kA => exact rfl); (case kK => first | exact rfl | assumption); (case k1 => k_asm); (case k2 => k_asm); (case k3 => k_asm); (case k4 => k_asm); (case k5 => k_asm); (case k6 => k_is); (case k7 => k_is); (case k8 => ktr_room); (case k9 => exact BindsTo.of_eq rfl); (case c5 => decide); (case kB => exact locs rfl); (case c2 => exact rfl); (case c3 => exact rfl); (case c4 => exact rfl); k_whole; intro g' L' h' FG' F' N' B' X' T' D'; (try dsimp only); (try k_fold)))
section
/-- a def that the law's own frame calls and that catches within -/
def Call0 (w : World) (D : Nat) (f : Addr) (vs : List Value) (news : List (Addr × Obj)) (R : Value → List (Addr × Obj) → Prop) : Prop :=
  ∀ (mean : ExcName → Option Value) (mg mb : Str → Option Value) (dp un : Nat) (gd : Option (List Code)) (cn : Str) (cs : Scope) (a : Addr) (ccd : Value) (A₀ : Around) (base h₀ : Heap) (L : Addr) (m : Str → Option Value) (s : Shared) (Q E : Value → Shared → Prop),
    Below A₀ base [] h₀ → Fr h₀ L s.heap m → (Mine.K w.params).In h₀ → News h₀ L s.heap news → Top Mine.view (looseW Mine.view []) mean mg mb h₀ → (Mine.K w.params).In base → Top Mine.view (looseW Mine.view []) mean mg mb base → cs.kind = .function →
    dp + D < recursionLimit → un + 10 * D < cLine →
    (∀ v h' tk' news', R v news' → Fr h₀ L h' m → News h₀ L h' news' → Q v { s with heap := h', toks := tk' }) →
    wpAny (model PySem.Challenge.rw_sa0222_01.row.prog w) (ktrTop dp un gd cn cs L a ccd [] []) (call (.ref f) vs) Q E s
theorem sub_top {q : Addr × Obj} {l1 rest : List (Addr × Obj)} {h₀ h : Heap} {L : Addr} (N : News h₀ L h (q :: (l1 ++ rest))) : News h₀ L h (q :: rest) := fun p hp => N p (by
  rcases List.mem_cons.mp hp with rfl | hp
  · exact .head _
  · exact .tail _ (List.mem_append_right _ hp))

theorem w22 : True := by
  k_with_none
  (k_with "call ref" => ((k_here; refine wpAny_call ?_; k_dflt (walk_at "mine enterF"))))
  (k_with "call type:bytes" => ((k_here; (with_reducible show wpAny _ _ (call (Value.type "bytes") [Value.ref _]) _ _ _); k_dflt (refine' Mine.call_bytes_tuple (by k_asm) (by k_asm) (by rfl) (by exact News.isTup (by k_asm) (by k_mem)) (by kba_listInts) ?_ (by kba_size) ?_; rotate_left); intro _ _ _ F' N' kbaIn)))
  (k_with "exec Raise some none" => ((k_here; (with_reducible show wpAny _ _ (exec (Stmt.Raise (some (Expr.Call (Expr.Name ("BadSig" : Str) _) _ _ _)) none _) _) _ _ _); k_dflt (refine Raise_own (C := 63) rfl ?_))))
  (k_with "exec Raise some none" => ((k_here; (with_reducible show wpAny _ _ (exec (Stmt.Raise (some (Expr.Call (Expr.Name ("BadImage" : Str) _) _ _ _)) none _) _) _ _ _); k_dflt (refine Raise_own (C := 51) rfl ?_))))
  (k_with "call ref" => ((k_here; (with_reducible show wpAny _ _ (call (Value.ref _) [_, _]) (RaisableX _ _) _ _); k_dflt (refine' raise_call _ _ _ _ (by first | exact excC_63 _ | exact excC_51 _) (by k_asm) (by k_asm) (by k_asm) (by k_asm) (by k_asm) (by exact rfl) (by ktr_room) (by ktr_units) ?_; k_whole; intro h' tk' e' t' d' F' N' hne' hnt'; (try dsimp only)))))
  (k_with "leaving ref" => ((k_here; first
  | (refine' leave_mine (by assumption) (by assumption) (by assumption) (by assumption) (by assumption) ?_; k_whole; intro h' R' U'; (try dsimp only))
  | (refine' leave_onS (by assumption) (by assumption) (by assumption) (by assumption) ?_; k_whole; intro h' R' RK' U'; (try dsimp only)))))
  (k_with "binaryOp Pow int int" => ((k_here; dsimp only; walk_at "binaryOp Pow int int")))
  (k_with "mine k_all" => (first | assumption | exact ne_lt (by assumption) | exact ne_succ (by assumption) | exact ne_lt (allLt_mem (And.right (by assumption))) | exact ne_lt (allLt_mem (And.right (And.right (by assumption))))))
  (k_with "call ref" => ((k_here; (with_reducible show wpAny _ _ (call (Value.ref 198) [Value.ref _]) _ _ _); k_dflt (first
  | (refine' Call.useR (by k_asm) (by k_asm) (by k_asm) (by k_asm) (by k_asm) (by first | exact rfl | assumption) (by ktr_room) (by ktr_units) (ru_ok (by assumption) (by assumption)) ?_ ?_; rotate_left; (intro _ _ _ _ _ _ _ _ z'; exact z'.elim); rotate_right; (intro v' h' tk' nw' R' F' N'; obtain ⟨n', t2', tn', en', e0', e'⟩ := R'; subst e0'; subst e'; (try dsimp only); (try k_fold)))
  | (refine' Call.useR (by k_asm) (by k_asm) (by k_asm) (by k_asm) (by k_asm) (by first | exact rfl | assumption) (by ktr_room) (by ktr_units) (ru_end (by assumption) (by assumption)) ?_ ?_; (intro _ _ _ _ z'; exact z'.elim); (intro C' e' t' xs' h' tk' nw' g' Z' FG' R' U'; obtain ⟨e0', e1'⟩ := Z'; subst e0'; subst e1'; (try dsimp only)))
  | (refine' Call.useR (by k_asm) (by k_asm) (by k_asm) (by k_asm) (by k_asm) (by first | exact rfl | assumption) (by ktr_room) (by ktr_units) (ru_sig (by assumption) (by assumption)) ?_ ?_; (intro _ _ _ _ z'; exact z'.elim); (intro C' e' t' xs' h' tk' nw' g' Z' FG' R' U'; obtain ⟨e0', e1'⟩ := Z'; subst e0'; subst e1'; (try dsimp only)))))))
  (k_with "eval Call" => ((k_here; (with_reducible show wpAny _ _ (eval (Expr.Call (Expr.Name ("read_uint" : Str) _) _ _ _) _) _ _ _); k_dflt (refine Call_Name (by rfl) ?_))))
  (k_with "call ref" => ((k_here; (with_reducible show wpAny _ _ (call (Value.ref 205) [Value.ref _]) _ _ _); k_dflt (first
  | (refine' Call.useR (by k_asm) (by k_asm) (by k_asm) (by k_asm) (by k_asm) (by first | exact rfl | assumption) (by ktr_room) (by ktr_units) (rs_ok (by assumption) (by assumption) (by assumption)) ?_ ?_; rotate_left; (intro _ _ _ _ _ _ _ _ z'; exact z'.elim); rotate_right; (intro v' h' tk' nw' R' F' N'; obtain ⟨n', t2', tn', en', e0', e'⟩ := R'; subst e0'; subst e'; (try dsimp only); (try k_fold)))
  | (refine' Call.useR (by k_asm) (by k_asm) (by k_asm) (by k_asm) (by k_asm) (by first | exact rfl | assumption) (by ktr_room) (by ktr_units) (rs_long (by assumption) (by assumption) (by assumption)) ?_ ?_; (intro _ _ _ _ z'; exact z'.elim); (intro C' e' t' xs' h' tk' nw' g' Z' FG' R' U'; obtain ⟨e0', e1'⟩ := Z'; subst e0'; subst e1'; (try dsimp only)))
  | (refine' Call.useR (by k_asm) (by k_asm) (by k_asm) (by k_asm) (by k_asm) (by first | exact rfl | assumption) (by ktr_room) (by ktr_units) (rs_end (by assumption) (by assumption)) ?_ ?_; (intro _ _ _ _ z'; exact z'.elim); (intro C' e' t' xs' h' tk' nw' g' Z' FG' R' U'; obtain ⟨e0', e1'⟩ := Z'; subst e0'; subst e1'; (try dsimp only)))
  | (refine' Call.useR (by k_asm) (by k_asm) (by k_asm) (by k_asm) (by k_asm) (by first | exact rfl | assumption) (by ktr_room) (by ktr_units) (rs_sig (by assumption) (by assumption)) ?_ ?_; (intro _ _ _ _ z'; exact z'.elim); (intro C' e' t' xs' h' tk' nw' g' Z' FG' R' U'; obtain ⟨e0', e1'⟩ := Z'; subst e0'; subst e1'; (try dsimp only)))))))
  (k_with "eval Call" => ((k_here; (with_reducible show wpAny _ _ (eval (Expr.Call (Expr.Name ("read_uint_strict" : Str) _) _ _ _) _) _ _ _); k_dflt (refine Call_Name (by rfl) ?_))))
  (k_with "call ref" => ((k_here; (with_reducible show wpAny _ _ (call (Value.ref 233) [Value.ref _]) _ _ _); k_dflt (first
  | (refine' Call.useR (by k_asm) (by k_asm) (by k_asm) (by k_asm) (by k_asm) (by first | exact rfl | assumption) (by ktr_room) (by ktr_units) (ri_ok (by assumption) (by assumption)) ?_ ?_; rotate_left; (intro _ _ _ _ _ _ _ _ z'; exact z'.elim); rotate_right; (intro v' h' tk' nw' R' F' N'; obtain ⟨n', t2', tn', en', e0', e'⟩ := R'; subst e0'; subst e'; (try dsimp only); (try k_fold)))
  | (refine' Call.useR (by k_asm) (by k_asm) (by k_asm) (by k_asm) (by k_asm) (by first | exact rfl | assumption) (by ktr_room) (by ktr_units) (ri_end (by assumption) (by assumption)) ?_ ?_; (intro _ _ _ _ z'; exact z'.elim); (intro C' e' t' xs' h' tk' nw' g' Z' FG' R' U'; obtain ⟨e0', e1'⟩ := Z'; subst e0'; subst e1'; (try dsimp only)))
  | (refine' Call.useR (by k_asm) (by k_asm) (by k_asm) (by k_asm) (by k_asm) (by first | exact rfl | assumption) (by ktr_room) (by ktr_units) (ri_sig (by assumption) (by assumption)) ?_ ?_; (intro _ _ _ _ z'; exact z'.elim); (intro C' e' t' xs' h' tk' nw' g' Z' FG' R' U'; obtain ⟨e0', e1'⟩ := Z'; subst e0'; subst e1'; (try dsimp only)))))))
  (k_with "eval Call" => ((k_here; (with_reducible show wpAny _ _ (eval (Expr.Call (Expr.Name ("read_int" : Str) _) _ _ _) _) _ _ _); k_dflt (refine Call_Name (by rfl) ?_))))
  trivial
section
variable {w : World} {x dx : Addr} {k1 k2 k3 t1 t2 t3 : Tok} {b : Array UInt8} {a e : Int} {rest : List (Addr × Obj)} {ks : List Int}
theorem tk_ok0 {k : Int} {tw : Tok} (I : InOk x dx rest b ks a e) (h : HasNum ks a e k) :
    Call0 w 70 274 [.ref x, .int 0 tw] ((x, instObj 159 dx) :: (dx, inD w k1 k2 k3 b t1 a t2 e t3) :: rest)
    (fun v nw => ∃ n t2' T' ts tn, n = num ks a k ∧ nw = (T', { cls := .type "tuple", data := .seq [.str (Str.ofString "") ts, .int n tn].toArray }) :: (x, instObj 159 dx) :: (dx, inD w k1 k2 k3 b t1 (a + k) t2' e t3) :: rest ∧ v = .ref T') := by
  unfold Call0
  k_fill
  intro mean mg mb dp un gd cn cs ad ccd A₀ base h₀ L m s Q E B F X N T XB TB hk hd hu hret
  refine wpAny_call ?_
  k_dflt (walk_at "mine enterS")
  k_steps
  exact hret _ _ _ _ ⟨_, _, _, _, _, by assumption, rfl, rfl⟩ (by k_asm) (by k_asm)
theorem tk_end0 {tw : Tok} (I : InOk x dx rest b ks a e) (h : TooFew ks a e) :
    Call0 w 70 274 [.ref x, .int 0 tw] ((x, instObj 159 dx) :: (dx, inD w k1 k2 k3 b t1 a t2 e t3) :: rest)
    (fun v nw => ∃ T' ts tn, nw = (T', { cls := .type "tuple", data := .seq [.str (Str.ofString "end") ts, .int 0 tn].toArray }) :: rest ∧ v = .ref T') := by
  unfold Call0
  k_fill
  intro mean mg mb dp un gd cn cs ad ccd A₀ base h₀ L m s Q E B F X N T XB TB hk hd hu hret
  refine wpAny_call ?_
  k_dflt (walk_at "mine enterS")
  k_steps
  exact hret _ _ _ _ ⟨_, _, _, rfl, rfl⟩ (by k_asm) (by k_asm)
theorem tk_sig0 {tw : Tok} (I : InOk x dx rest b ks a e) (h : a < e ∧ 224 ≤ ks.getD a.toNat 0) :
    Call0 w 70 274 [.ref x, .int 0 tw] ((x, instObj 159 dx) :: (dx, inD w k1 k2 k3 b t1 a t2 e t3) :: rest)
    (fun v nw => ∃ T' ts tn, nw = (T', { cls := .type "tuple", data := .seq [.str (Str.ofString "sig") ts, .int 0 tn].toArray }) :: rest ∧ v = .ref T') := by
  unfold Call0
  k_fill
  intro mean mg mb dp un gd cn cs ad ccd A₀ base h₀ L m s Q E B F X N T XB TB hk hd hu hret
  refine wpAny_call ?_
  k_dflt (walk_at "mine enterS")
  k_steps
  exact hret _ _ _ _ ⟨_, _, _, rfl, rfl⟩ (by k_asm) (by k_asm)
theorem tk_ok1 {k : Int} {tw : Tok} (I : InOk x dx rest b ks a e) (h : HasNum ks a e k) (hs : uw (num ks a k) = k) :
    Call0 w 70 274 [.ref x, .int 1 tw] ((x, instObj 159 dx) :: (dx, inD w k1 k2 k3 b t1 a t2 e t3) :: rest)
    (fun v nw => ∃ n t2' T' ts tn, n = num ks a k ∧ nw = (T', { cls := .type "tuple", data := .seq [.str (Str.ofString "") ts, .int n tn].toArray }) :: (x, instObj 159 dx) :: (dx, inD w k1 k2 k3 b t1 (a + k) t2' e t3) :: rest ∧ v = .ref T') := by
  unfold Call0
  k_fill
  intro mean mg mb dp un gd cn cs ad ccd A₀ base h₀ L m s Q E B F X N T XB TB hk hd hu hret
  refine wpAny_call ?_
  k_dflt (walk_at "mine enterS")
  k_steps
  exact hret _ _ _ _ ⟨_, _, _, _, _, by assumption, rfl, rfl⟩ (by k_asm) (by k_asm)
theorem tk_end1 {tw : Tok} (I : InOk x dx rest b ks a e) (h : TooFew ks a e) :
    Call0 w 70 274 [.ref x, .int 1 tw] ((x, instObj 159 dx) :: (dx, inD w k1 k2 k3 b t1 a t2 e t3) :: rest)
    (fun v nw => ∃ T' ts tn, nw = (T', { cls := .type "tuple", data := .seq [.str (Str.ofString "end") ts, .int 0 tn].toArray }) :: rest ∧ v = .ref T') := by
  unfold Call0
  k_fill
  intro mean mg mb dp un gd cn cs ad ccd A₀ base h₀ L m s Q E B F X N T XB TB hk hd hu hret
  refine wpAny_call ?_
  k_dflt (walk_at "mine enterS")
  k_steps
  exact hret _ _ _ _ ⟨_, _, _, rfl, rfl⟩ (by k_asm) (by k_asm)
theorem tk_sig1 {tw : Tok} (I : InOk x dx rest b ks a e) (h : a < e ∧ 224 ≤ ks.getD a.toNat 0) :
    Call0 w 70 274 [.ref x, .int 1 tw] ((x, instObj 159 dx) :: (dx, inD w k1 k2 k3 b t1 a t2 e t3) :: rest)
    (fun v nw => ∃ T' ts tn, nw = (T', { cls := .type "tuple", data := .seq [.str (Str.ofString "sig") ts, .int 0 tn].toArray }) :: rest ∧ v = .ref T') := by
  unfold Call0
  k_fill
  intro mean mg mb dp un gd cn cs ad ccd A₀ base h₀ L m s Q E B F X N T XB TB hk hd hu hret
  refine wpAny_call ?_
  k_dflt (walk_at "mine enterS")
  k_steps
  exact hret _ _ _ _ ⟨_, _, _, rfl, rfl⟩ (by k_asm) (by k_asm)
theorem tk_ok2 {k : Int} {tw : Tok} (I : InOk x dx rest b ks a e) (h : HasNum ks a e k) :
    Call0 w 70 274 [.ref x, .int 2 tw] ((x, instObj 159 dx) :: (dx, inD w k1 k2 k3 b t1 a t2 e t3) :: rest)
    (fun v nw => ∃ n t2' T' ts tn, n = num ks a k / 2 - num ks a k % 2 * 2 ^ (wb k - 1).toNat ∧ nw = (T', { cls := .type "tuple", data := .seq [.str (Str.ofString "") ts, .int n tn].toArray }) :: (x, instObj 159 dx) :: (dx, inD w k1 k2 k3 b t1 (a + k) t2' e t3) :: rest ∧ v = .ref T') := by
  unfold Call0
  k_fill
  intro mean mg mb dp un gd cn cs ad ccd A₀ base h₀ L m s Q E B F X N T XB TB hk hd hu hret
  refine wpAny_call ?_
  k_dflt (walk_at "mine enterS")
  k_steps
  exact hret _ _ _ _ ⟨_, _, _, _, _, by assumption, rfl, rfl⟩ (by k_asm) (by k_asm)
theorem tk_end2 {tw : Tok} (I : InOk x dx rest b ks a e) (h : TooFew ks a e) :
    Call0 w 70 274 [.ref x, .int 2 tw] ((x, instObj 159 dx) :: (dx, inD w k1 k2 k3 b t1 a t2 e t3) :: rest)
    (fun v nw => ∃ T' ts tn, nw = (T', { cls := .type "tuple", data := .seq [.str (Str.ofString "end") ts, .int 0 tn].toArray }) :: rest ∧ v = .ref T') := by
  unfold Call0
  k_fill
  intro mean mg mb dp un gd cn cs ad ccd A₀ base h₀ L m s Q E B F X N T XB TB hk hd hu hret
  refine wpAny_call ?_
  k_dflt (walk_at "mine enterS")
  k_steps
  exact hret _ _ _ _ ⟨_, _, _, rfl, rfl⟩ (by k_asm) (by k_asm)
theorem tk_sig2 {tw : Tok} (I : InOk x dx rest b ks a e) (h : a < e ∧ 224 ≤ ks.getD a.toNat 0) :
    Call0 w 70 274 [.ref x, .int 2 tw] ((x, instObj 159 dx) :: (dx, inD w k1 k2 k3 b t1 a t2 e t3) :: rest)
    (fun v nw => ∃ T' ts tn, nw = (T', { cls := .type "tuple", data := .seq [.str (Str.ofString "sig") ts, .int 0 tn].toArray }) :: rest ∧ v = .ref T') := by
  unfold Call0
  k_fill
  intro mean mg mb dp un gd cn cs ad ccd A₀ base h₀ L m s Q E B F X N T XB TB hk hd hu hret
  refine wpAny_call ?_
  k_dflt (walk_at "mine enterS")
  k_steps
  exact hret _ _ _ _ ⟨_, _, _, rfl, rfl⟩ (by k_asm) (by k_asm)
theorem tk_long {k : Int} {tw : Tok} (I : InOk x dx rest b ks a e) (h : HasNum ks a e k) (hs : uw (num ks a k) ≠ k) :
    Call0 w 70 274 [.ref x, .int 1 tw] ((x, instObj 159 dx) :: (dx, inD w k1 k2 k3 b t1 a t2 e t3) :: rest)
    (fun v nw => ∃ T' ts tn, nw = (T', { cls := .type "tuple", data := .seq [.str (Str.ofString "sig") ts, .int 0 tn].toArray }) :: rest ∧ v = .ref T') := by
  unfold Call0
  k_fill
  intro mean mg mb dp un gd cn cs ad ccd A₀ base h₀ L m s Q E B F X N T XB TB hk hd hu hret
  refine wpAny_call ?_
  k_dflt (walk_at "mine enterS")
  k_steps
  exact hret _ _ _ _ ⟨_, _, _, rfl, rfl⟩ (by k_asm) (by k_asm)
end

end
section
/-! Plain: numbers and their octets -/
def Wd (k : Int) : Prop := k = 1 ∨ k = 2 ∨ k = 4
theorem spread_len (n : Int) {k : Int} (h : Wd k) : (spread n k).length = k.toNat := by
  rcases h with rfl | rfl | rfl <;> rfl
theorem uw_wd (n : Int) : Wd (uw n) := by
  unfold uw
  split
  · exact .inl rfl
  · split
    · exact .inr (.inl rfl)
    · exact .inr (.inr rfl)
theorem iw_wd (n : Int) : Wd (iw n) := by
  unfold iw
  split
  · exact .inl rfl
  · split
    · exact .inr (.inl rfl)
    · exact .inr (.inr rfl)
theorem HasNum.wd {ks : List Int} {a e k : Int} (h : HasNum ks a e k) : Wd k := by
  rcases h with ⟨h, _⟩ | ⟨h, _⟩ | ⟨h, _⟩
  · exact .inl h
  · exact .inr (.inl h)
  · exact .inr (.inr h)
theorem tk_one {ks : List Int} {n : Nat} (h : n + 1 ≤ ks.length) : (ks.drop n).take 1 = [ks.getD n 0] := by
  have h' : n < ks.length := h
  rw [List.drop_eq_getElem_cons h', List.take_succ_cons, List.take_zero]
  simp [h']
theorem tk_succ {ks : List Int} {n k : Nat} (h : n + k + 1 ≤ ks.length) : (ks.drop n).take (k + 1) = ks.getD n 0 :: (ks.drop (n + 1)).take k := by
  have h' : n < ks.length := by omega
  rw [List.drop_eq_getElem_cons h', List.take_succ_cons]
  simp [h']
theorem num_1 (ks : List Int) (a : Int) : num ks a 1 = ks.getD a.toNat 0 := rfl
theorem num_2 (ks : List Int) (a : Int) : num ks a 2 = (ks.getD a.toNat 0 - 128) * 256 + ks.getD (a + 1).toNat 0 := rfl
theorem num_4 (ks : List Int) (a : Int) : num ks a 4 = (((ks.getD a.toNat 0 - 192) * 256 + ks.getD (a + 1).toNat 0) * 256 + ks.getD (a + 1 + 1).toNat 0) * 256 + ks.getD (a + 1 + 1 + 1).toNat 0 := rfl
theorem spread2 (n : Int) : spread n 2 = [128 + n / 256, n % 256] := rfl
theorem spread4 (n : Int) : spread n 4 = [192 + n / 16777216, n / 65536 % 256, n / 256 % 256, n % 256] := rfl
theorem take2 {ks : List Int} {a : Int} (h0 : 0 ≤ a) (h : a + 2 ≤ ks.length) : (ks.drop a.toNat).take 2 = [ks.getD a.toNat 0, ks.getD (a + 1).toNat 0] := by
  rw [tk_succ (by omega), tk_one (by omega), show (a + 1).toNat = a.toNat + 1 from by omega]
theorem take4 {ks : List Int} {a : Int} (h0 : 0 ≤ a) (h : a + 4 ≤ ks.length) : (ks.drop a.toNat).take 4 = [ks.getD a.toNat 0, ks.getD (a + 1).toNat 0, ks.getD (a + 1 + 1).toNat 0, ks.getD (a + 1 + 1 + 1).toNat 0] := by
  rw [tk_succ (by omega), tk_succ (by omega), tk_succ (by omega), tk_one (by omega), show (a + 1).toNat = a.toNat + 1 from by omega, show (a + 1 + 1).toNat = a.toNat + 1 + 1 from by omega, show (a + 1 + 1 + 1).toNat = a.toNat + 1 + 1 + 1 from by omega]
theorem spread_num {ks : List Int} (hin : ∀ x ∈ ks, 0 ≤ x ∧ x < 256) {a e k : Int} (h : HasNum ks a e k) (h0 : 0 ≤ a) (he : e ≤ ks.length) : spread (num ks a k) k = (ks.drop a.toNat).take k.toNat := by
  have z1 := KBw.getD_in (j := (a + 1).toNat) hin
  have z2 := KBw.getD_in (j := (a + 1 + 1).toNat) hin
  have z3 := KBw.getD_in (j := (a + 1 + 1 + 1).toNat) hin
  rcases h with ⟨rfl, h1, h2, h3⟩ | ⟨rfl, h1, h2, h3⟩ | ⟨rfl, h1, h2, h3⟩
  · exact (tk_one (ks := ks) (n := a.toNat) (by omega)).symm
  · refine Eq.trans ?_ (take2 h0 (by omega)).symm
    rw [spread2, num_2]
    generalize ks.getD a.toNat 0 = n0 at *
    generalize ks.getD (a + 1).toNat 0 = n1 at *
    rw [show 128 + ((n0 - 128) * 256 + n1) / 256 = n0 from by omega, show ((n0 - 128) * 256 + n1) % 256 = n1 from by omega]
  · refine Eq.trans ?_ (take4 h0 (by omega)).symm
    rw [spread4, num_4]
    generalize ks.getD a.toNat 0 = n0 at *
    generalize ks.getD (a + 1).toNat 0 = n1 at *
    generalize ks.getD (a + 1 + 1).toNat 0 = n2 at *
    generalize ks.getD (a + 1 + 1 + 1).toNat 0 = n3 at *
    rw [show 192 + ((((n0 - 192) * 256 + n1) * 256 + n2) * 256 + n3) / 16777216 = n0 from by omega, show ((((n0 - 192) * 256 + n1) * 256 + n2) * 256 + n3) / 65536 % 256 = n1 from by omega,
      show ((((n0 - 192) * 256 + n1) * 256 + n2) * 256 + n3) / 256 % 256 = n2 from by omega, show ((((n0 - 192) * 256 + n1) * 256 + n2) * 256 + n3) % 256 = n3 from by omega]
theorem cons_inj2 {a b c d : Int} (h : [a, b] = [c, d]) : a = c ∧ b = d := by injection h with h1 h; injection h with h2 _; exact ⟨h1, h2⟩
theorem cons_inj4 {a b c d a' b' c' d' : Int} (h : [a, b, c, d] = [a', b', c', d']) : a = a' ∧ b = b' ∧ c = c' ∧ d = d' := by
  injection h with h1 h; injection h with h2 h; injection h with h3 h; injection h with h4 _; exact ⟨h1, h2, h3, h4⟩
theorem len_of_take {ks : List Int} {a k : Nat} (h : ((ks.drop a).take k).length = k) : k = 0 ∨ a + k ≤ ks.length := by
  rw [List.length_take, List.length_drop] at h; omega
/-- a number that lies there is read there -/
theorem num_spread {ks : List Int} {a e n k : Int} (hh : Holds1 n k) (h0 : 0 ≤ a) (hk : (ks.drop a.toNat).take k.toNat = spread n k) (he : a + k ≤ e) : HasNum ks a e k ∧ num ks a k = n := by
  have hw : Wd k := by
    rcases hh with ⟨h, _⟩ | ⟨h, _⟩ | ⟨h, _⟩
    · exact .inl h
    · exact .inr (.inl h)
    · exact .inr (.inr h)
  have hl := len_of_take (ks := ks) (a := a.toNat) (k := k.toNat) (by rw [hk, spread_len n hw])
  rcases hh with ⟨rfl, h1, h2⟩ | ⟨rfl, h1, h2⟩ | ⟨rfl, h1, h2⟩
  · have e1 : [ks.getD a.toNat 0] = [n] := (tk_one (ks := ks) (n := a.toNat) (by omega)).symm.trans hk
    injection e1 with e1 _
    refine ⟨.inl ⟨rfl, ?_, ?_, ?_⟩, e1⟩ <;> omega
  · obtain ⟨e1, e2⟩ := cons_inj2 ((take2 h0 (by omega)).symm.trans hk)
    rw [num_2]
    refine ⟨.inr (.inl ⟨rfl, ?_, ?_, ?_⟩), ?_⟩ <;> omega
  · obtain ⟨e1, e2, e3, e4⟩ := cons_inj4 ((take4 h0 (by omega)).symm.trans hk)
    rw [num_4]
    refine ⟨.inr (.inr ⟨rfl, ?_, ?_, ?_⟩), ?_⟩ <;> omega
theorem uw_holds {n : Int} (h : 0 ≤ n ∧ n < 536870912) : Holds1 n (uw n) := by
  unfold uw Holds1
  split
  · exact .inl ⟨rfl, h.1, by omega⟩
  · split
    · exact .inr (.inl ⟨rfl, h.1, by omega⟩)
    · exact .inr (.inr ⟨rfl, h⟩)
theorem iw_holds {n : Int} (h : -268435456 ≤ n ∧ n < 268435456) : Holds1 (rot n) (iw n) := by
  unfold iw rot Holds1
  by_cases h1 : -64 ≤ n ∧ n < 64
  · rw [if_pos h1, if_pos h1]; refine .inl ⟨rfl, ?_, ?_⟩ <;> split <;> omega
  · rw [if_neg h1, if_neg h1]
    by_cases h2 : -8192 ≤ n ∧ n < 8192
    · rw [if_pos h2, if_pos h2]; refine .inr (.inl ⟨rfl, ?_, ?_⟩) <;> split <;> omega
    · rw [if_neg h2, if_neg h2]; refine .inr (.inr ⟨rfl, ?_, ?_⟩) <;> split <;> omega
theorem rot_back {n : Int} (h : -268435456 ≤ n ∧ n < 268435456) : rot n / 2 - rot n % 2 * 2 ^ (wb (iw n) - 1).toNat = n := by
  have p6 : (2 : Int) ^ ((7 : Int) - 1).toNat = 64 := by decide
  have p13 : (2 : Int) ^ ((14 : Int) - 1).toNat = 8192 := by decide
  have p28 : (2 : Int) ^ ((29 : Int) - 1).toNat = 268435456 := by decide
  unfold iw rot
  by_cases h1 : -64 ≤ n ∧ n < 64
  · rw [if_pos h1, if_pos h1, show wb 1 = 7 from rfl, p6]; split <;> omega
  · rw [if_neg h1, if_neg h1]
    by_cases h2 : -8192 ≤ n ∧ n < 8192
    · rw [if_pos h2, if_pos h2, show wb 2 = 14 from rfl, p13]; split <;> omega
    · rw [if_neg h2, if_neg h2, show wb 4 = 29 from rfl, p28]; split <;> omega
theorem spread_ints {n k : Int} (h : Holds1 n k) : KBw.bInts (byteArr (spread n k)) = spread n k := KBa.ints_make (spread_in h)
theorem ints_inj {b c : Array UInt8} (h : KBw.bInts b = KBw.bInts c) : b.toList = c.toList := by
  refine (List.map_inj_right (f := fun c : UInt8 => (c.toNat : Int)) fun x y e => ?_).mp h
  exact UInt8.toNat_inj.mp (Int.ofNat.inj e)
/-- are the octets of the shortest form those that lie there -/
theorem octets_same {ks : List Int} (hin : ∀ x ∈ ks, 0 ≤ x ∧ x < 256) {a e k : Int} (h : HasNum ks a e k) (h0 : 0 ≤ a) (he : e ≤ ks.length) {p : Array UInt8} (hp : KBw.bInts p = (ks.drop a.toNat).take k.toNat) :
    ((byteArr (spread (num ks a k) (uw (num ks a k)))).toList != p.toList) = true ↔ uw (num ks a k) ≠ k := by
  have hs := spread_num hin h h0 he
  have hu := uw_holds (num_in hin h)
  rw [bne_iff_ne]
  constructor
  · intro hne hk
    refine hne (ints_inj ?_)
    rw [spread_ints hu, hk, hs, hp]
  · intro hne heq
    have e1 : byteArr (spread (num ks a k) (uw (num ks a k))) = p := by
      rw [← Array.toArray_toList (xs := p), ← heq, Array.toArray_toList]
    have e2 := congrArg List.length (spread_ints hu)
    rw [e1, hp, ← hs, spread_len _ h.wd, spread_len _ (uw_wd _)] at e2
    refine hne ?_
    rcases h.wd with h | h | h <;> rcases uw_wd (num ks a k) with h' | h' | h' <;> rw [h'] at e2 ⊢ <;> subst h <;> first | rfl | exact absurd e2 (by decide)

end
section
theorem sw_all : ∀ k : Nat, k < 256 → (Txt.startswith (T (bits (k : Int) 8)) (Str.ofString "0") = decide (k < 128)) ∧ (Txt.startswith (T (bits (k : Int) 8)) (Str.ofString "10") = decide (128 ≤ k ∧ k < 192)) ∧ (Txt.startswith (T (bits (k : Int) 8)) (Str.ofString "110") = decide (192 ≤ k ∧ k < 224)) := by decide +kernel
theorem sw0 {n : Int} (h : 0 ≤ n ∧ n < 256) (b : Bool) (hb : b = true ↔ n < 128) : Txt.startswith (T (bits n 8)) (Str.ofString "0") = b := by
  obtain ⟨k, rfl⟩ := Int.eq_ofNat_of_zero_le h.1
  rw [(sw_all k (by omega)).1]
  have : b = true ↔ k < 128 := hb.trans (by omega)
  cases b <;> simp_all
theorem sw10 {n : Int} (h : 0 ≤ n ∧ n < 256) (b : Bool) (hb : b = true ↔ 128 ≤ n ∧ n < 192) : Txt.startswith (T (bits n 8)) (Str.ofString "10") = b := by
  obtain ⟨k, rfl⟩ := Int.eq_ofNat_of_zero_le h.1
  rw [(sw_all k (by omega)).2.1]
  have : b = true ↔ (128 ≤ k ∧ k < 192) := hb.trans (by omega)
  cases b <;> simp_all
theorem sw110 {n : Int} (h : 0 ≤ n ∧ n < 256) (b : Bool) (hb : b = true ↔ 192 ≤ n ∧ n < 224) : Txt.startswith (T (bits n 8)) (Str.ofString "110") = b := by
  obtain ⟨k, rfl⟩ := Int.eq_ofNat_of_zero_le h.1
  rw [(sw_all k (by omega)).2.2]
  have : b = true ↔ (192 ≤ k ∧ k < 224) := hb.trans (by omega)
  cases b <;> simp_all
theorem pick_ints {b : Array UInt8} {ks : List Int} (hk : KBw.bInts b = ks) {a e : Int} (k : Nat) (he : e = a + k) (h0 : 0 ≤ a) (h : a + k ≤ ks.length) : KBw.bInts (KBy.picked b (some a) (some e)) = (ks.drop a.toNat).take k := by
  rw [KBc.ints_picked hk, he]
  have e1 : clipAt ks.length a = a.toNat := by
    obtain ⟨n, rfl⟩ := Int.eq_ofNat_of_zero_le h0
    rw [clipAt_nat]
    omega
  have e2 : clipAt ks.length (a + k) = a.toNat + k := by
    obtain ⟨n, rfl⟩ := Int.eq_ofNat_of_zero_le h0
    rw [show ((n : Int) + (k : Int)) = ((n + k : Nat) : Int) from by omega, clipAt_nat]
    omega
  show (ks.drop (clipAt ks.length a)).take (clipAt ks.length (a + k) - clipAt ks.length a) = _
  rw [e1, e2, Nat.add_sub_cancel_left]
theorem take_one_at {ks : List Int} {n : Nat} (h : n + 1 ≤ ks.length) : (ks.drop n).take 1 = [ks.getD n 0] := by
  have h' : n < ks.length := h
  rw [List.drop_eq_getElem_cons h', List.take_succ_cons, List.take_zero]
  simp [h']
theorem take_succ_at {ks : List Int} {n k : Nat} (h : n + k + 1 ≤ ks.length) : (ks.drop n).take (k + 1) = ks.getD n 0 :: (ks.drop (n + 1)).take k := by
  have h' : n < ks.length := by omega
  rw [List.drop_eq_getElem_cons h', List.take_succ_cons]
  simp [h']
/-- the digits of a row of octets -/
def Z (ks : List Int) : List Nat := (ks.map fun n => bits n 8).flatten
theorem drop_bits (n : Int) (a b : Nat) : (bits n (a + b)).drop a = bits n b := by
  rw [bits_split, List.drop_append_of_le_length (by rw [bits_length]; exact Nat.le_refl _), List.drop_of_length_le (by rw [bits_length]; exact Nat.le_refl _), List.nil_append]
theorem drop_bits_app (n : Int) (a b : Nat) (r : List Nat) : (bits n (a + b) ++ r).drop a = bits n b ++ r := by
  rw [List.drop_append_of_le_length (by rw [bits_length]; omega), drop_bits]
theorem z_1 {ks : List Int} {a : Int} (h0 : 0 ≤ a) (h : a + 1 ≤ ks.length) : (Z ((ks.drop a.toNat).take 1)).drop 1 = bits (num ks a 1) 7 := by
  rw [take_one_at (by omega)]
  unfold Z
  rw [List.map_cons, List.map_nil, List.flatten_cons, List.flatten_nil, List.append_nil, show num ks a 1 = ks.getD a.toNat 0 from rfl]
  exact drop_bits _ 1 7
theorem z_2 {ks : List Int} (hin : ∀ x ∈ ks, 0 ≤ x ∧ x < 256) {a : Int} (h0 : 0 ≤ a) (h : a + 2 ≤ ks.length) : (Z ((ks.drop a.toNat).take 2)).drop 2 = bits (num ks a 2) 14 := by
  have z1 := KBw.getD_in (j := a.toNat + 1) hin
  have e2 : num ks a 2 = (ks.getD a.toNat 0 - 128) * 256 + ks.getD (a + 1).toNat 0 := rfl
  rw [take_succ_at (by omega), take_one_at (by omega), e2, show (a + 1).toNat = a.toNat + 1 from by omega]
  unfold Z
  generalize ks.getD a.toNat 0 = n0
  generalize ks.getD (a.toNat + 1) 0 = n1 at z1
  rw [List.map_cons, List.map_cons, List.map_nil, List.flatten_cons, List.flatten_cons, List.flatten_nil, List.append_nil]
  refine (drop_bits_app _ 2 6 _).trans ?_
  refine Eq.trans ?_ (bits_split 6 8 _).symm
  have p8 : (2 : Int) ^ 8 = 256 := by decide
  have p6 : (2 : Int) ^ 6 = 64 := by decide
  rw [bits_mod_of (c := 6) (n := n0) (m := ((n0 - 128) * 256 + n1) / 2 ^ 8) (by rw [p8, p6]; omega), bits_mod_of (c := 8) (n := n1) (m := (n0 - 128) * 256 + n1) (by rw [p8]; omega)]
theorem z_4 {ks : List Int} (hin : ∀ x ∈ ks, 0 ≤ x ∧ x < 256) {a : Int} (h0 : 0 ≤ a) (h : a + 4 ≤ ks.length) : (Z ((ks.drop a.toNat).take 4)).drop 3 = bits (num ks a 4) 29 := by
  have z1 := KBw.getD_in (j := a.toNat + 1) hin
  have z2 := KBw.getD_in (j := a.toNat + 1 + 1) hin
  have z3 := KBw.getD_in (j := a.toNat + 1 + 1 + 1) hin
  have e4 : num ks a 4 = (((ks.getD a.toNat 0 - 192) * 256 + ks.getD (a + 1).toNat 0) * 256 + ks.getD (a + 1 + 1).toNat 0) * 256 + ks.getD (a + 1 + 1 + 1).toNat 0 := rfl
  rw [take_succ_at (by omega), take_succ_at (by omega), take_succ_at (by omega), take_one_at (by omega), e4, show (a + 1).toNat = a.toNat + 1 from by omega, show (a + 1 + 1).toNat = a.toNat + 1 + 1 from by omega, show (a + 1 + 1 + 1).toNat = a.toNat + 1 + 1 + 1 from by omega]
  unfold Z
  generalize ks.getD a.toNat 0 = n0
  generalize ks.getD (a.toNat + 1) 0 = n1 at z1
  generalize ks.getD (a.toNat + 1 + 1) 0 = n2 at z2
  generalize ks.getD (a.toNat + 1 + 1 + 1) 0 = n3 at z3
  rw [List.map_cons, List.map_cons, List.map_cons, List.map_cons, List.map_nil, List.flatten_cons, List.flatten_cons, List.flatten_cons, List.flatten_cons, List.flatten_nil, List.append_nil]
  refine (drop_bits_app _ 3 5 _).trans ?_
  have p8 : (2 : Int) ^ 8 = 256 := by decide
  have p16 : (2 : Int) ^ 16 = 65536 := by decide
  have p24 : (2 : Int) ^ 24 = 16777216 := by decide
  have p5 : (2 : Int) ^ 5 = 32 := by decide
  have s1 := fun n => bits_split 5 24 n
  have s2 := fun n => bits_split 8 16 n
  have s3 := fun n => bits_split 8 8 n
  rw [show bits ((((n0 - 192) * 256 + n1) * 256 + n2) * 256 + n3) 29 = _ from s1 _, show bits ((((n0 - 192) * 256 + n1) * 256 + n2) * 256 + n3) 24 = _ from s2 _, show bits ((((n0 - 192) * 256 + n1) * 256 + n2) * 256 + n3) 16 = _ from s3 _]
  rw [bits_mod_of (c := 5) (n := n0) (m := ((((n0 - 192) * 256 + n1) * 256 + n2) * 256 + n3) / 2 ^ 24) (by rw [p24, p5]; omega),
    bits_mod_of (c := 8) (n := n1) (m := ((((n0 - 192) * 256 + n1) * 256 + n2) * 256 + n3) / 2 ^ 16) (by rw [p16, p8]; omega),
    bits_mod_of (c := 8) (n := n2) (m := ((((n0 - 192) * 256 + n1) * 256 + n2) * 256 + n3) / 2 ^ 8) (by rw [p8]; omega),
    bits_mod_of (c := 8) (n := n3) (m := (((n0 - 192) * 256 + n1) * 256 + n2) * 256 + n3) (by rw [p8]; omega)]
theorem z_bin (ks : List Int) : ∀ d ∈ Z ks, d = 0 ∨ d = 1 := by
  intro d hd
  obtain ⟨l, hl, hd⟩ := List.mem_flatten.mp hd
  obtain ⟨n, _, rfl⟩ := List.mem_map.mp hl
  exact bits_bin n 8 d hd
theorem range_ints {α : Type} (f : Int → α) (ks : List Int) : ((List.range ks.length).map fun i => f (ks.getD i 0)) = ks.map f := by
  refine List.ext_getElem? fun i => ?_
  rw [List.getElem?_map, List.getElem?_map]
  by_cases h : i < ks.length
  · simp [h]
  · simp [h]
section
variable {prog : Program} {w : World} {A : Around} {E : Value → Shared → Prop} {s : Shared} {n : Int} {t u : Tok} {Q : Value → Shared → Prop}
theorem slice_Z {value slice : PySem.Expr} {h₀ : Heap} {L : Addr} {m : Str → Option Value} {news : List (Addr × Obj)} {l r : List Nat} {i : Int} {ui : Tok} {k : Nat} (F : Fr h₀ L s.heap m) (N : News h₀ L s.heap news) (he : i = (k : Int)) (hk : l.drop k = r) (hkl : k ≤ l.length) (hl : l.length ≤ 100000)
    (h : ∀ h' t' k, Fr h₀ L h' m → News h₀ L h' news → Q (.str (T r) t') { s with heap := h', toks := k })
    (hs : subscripted slice false (.str (T l) t) (.ref s.heap.objs.size) = operate [.ref s.heap.objs.size, .str (T l) t] (getItem (.str (T l) t) (.ref s.heap.objs.size)) := by with_unfolding_all rfl)
    (ht : ∀ r, letTemporaryGo value (.str (T l) t) r = pure () := by intro _; with_unfolding_all rfl) :
    wpAny (model prog w) A (subscriptTail value slice (.str (T l) t) (.ref s.heap.objs.size)) Q E { s with heap := s.heap.push { cls := .type "slice", data := .fields #[.int i ui, .none, .none] } } := by
  refine slice_strN_sn F N ?_ hs ht (by rw [T_length, PySem.sizeLine_eq]; omega)
  rw [he, slice_from l k hkl, hk]
  exact h
theorem index_bit {x : Str} (n : Int) (hx : x = T [(n % 2).toNat]) (hq : Q (.int (n % 2) s.toks) { s with toks := s.toks + 1 }) : wpAny (model prog w) A (call (.builtin "str.index") [.str (Str.ofString "01") t, .str x u]) Q E s := by
  subst hx
  rcases (by omega : n % 2 = 0 ∨ n % 2 = 1) with h | h
  · rw [h] at hq ⊢
    exact SC.index (i := 0) (rest := []) (by decide +kernel) hq
  · rw [h] at hq ⊢
    exact SC.index (i := 1) (rest := []) (by decide +kernel) hq
theorem look_src {h₀ : Heap} {L : Addr} {m : Str → Option Value} {env : Env} {elt : Expr} {x : Str} {scope : Scope} {cl : List (Str × Addr)} {Fin : Shared → List Value → List (Addr × Obj) → Prop} {b : Array UInt8} {ks : List Int} (hk : KBw.bInts b = ks) {a e : Int} (k : Nat) (h0 : 0 ≤ a) (hl : a + k ≤ ks.length) (hz : ks.length ≤ 100000) (he : e = a + k) (hh : A.handled = none)
    {news : List (Addr × Obj)} (F : Fr h₀ L s.heap m) (N : News h₀ L s.heap news)
    (r : ∀ p : Array UInt8, KBw.bInts p = (ks.drop a.toNat).take k → ∀ s₂ : Shared, (∃ h, s₂ = { s with heap := h }) → LCg.CompRest prog w A h₀ L m env elt x scope cl s₂ (fun _ => True) (fun i v => ∃ c t', p[i]? = some c ∧ v = .int (c.toNat : Int) t') (Fin s₂) (KBw.bInts p).length 0 [] news) :
    CompSrcM prog w A h₀ L m env elt x scope cl Fin (.bytes (KBy.picked b (some a) (some e)) t) s := by
  have hp := pick_ints hk k he h0 hl
  refine ⟨_, _, _, F, N, ?_, srcM_bytes hh, fun s₂ hs => ?_⟩
  · rw [← KBw.ints_length, hp, PySem.sizeLine_eq, List.length_take, List.length_drop]; omega
  · have := r _ hp s₂ hs
    rwa [KBw.ints_length] at this
theorem swA {x y : Str} (b : Bool) (h : Txt.startswith x y = b) (hq : Q (.bool b) s) : wpAny (model prog w) A (call (.builtin "str.startswith") [.str x t, .str y u]) Q E s := SC.startswith (by rw [h]; exact hq)
end
theorem join_Z (l : List Int) : Txt.join (Str.ofString "") (l.map fun n => T (bits n 8)) = T (Z l) := by
  have := join_T (l.map fun n => bits n 8)
  rw [List.map_map] at this
  exact this
theorem sum_Z (l : List Int) : ((l.map fun n => T (bits n 8)).map (·.length)).sum = 8 * l.length := by
  induction l with
  | nil => rfl
  | cons d l ih => rw [List.map_cons, List.map_cons, List.sum_cons, ih, T_length, bits_length, List.length_cons]; omega
theorem Z_length (l : List Int) : (Z l).length = 8 * l.length := by
  induction l with
  | nil => rfl
  | cons d l ih =>
    have e : Z (d :: l) = bits d 8 ++ Z l := rfl
    rw [e, List.length_append, bits_length, ih, List.length_cons]; omega
theorem bits_last (n : Int) (c : Nat) : Txt.item (T (bits n (c + 1))) (c : Int) = T [(n % 2).toNat] := by
  rw [item_T _ c (by rw [bits_length]; exact Nat.lt_succ_self _)]
  congr 2
  rw [List.getElem_of_eq (bits_succ n c) _, List.getElem_append_right (by rw [bits_length]; exact Nat.le_refl _)]
  simp [bits_length]
theorem bits_front (n : Int) (c : Nat) : Txt.slice (T (bits n (c + 1))) none (some (c : Int)) = T (bits (n / 2) c) := by
  rw [slice_to _ c (by rw [bits_length]; exact Nat.le_succ _), bits_succ, List.take_append_of_le_length (by rw [bits_length]; exact Nat.le_refl _), List.take_of_length_le (by rw [bits_length]; exact Nat.le_refl _)]
theorem turned_first (d : Nat) (l : List Nat) : Txt.item (T (d :: l)) 0 = T [d] := item_T (d :: l) 0 (Nat.zero_lt_succ _)
theorem turned_val (n : Int) (c : Nat) (h : 0 ≤ n ∧ n < 2 ^ (c + 1)) : val ([(n % 2).toNat] ++ bits (n / 2) c) = n / 2 + n % 2 * 2 ^ c := by
  have e : (2 : Int) ^ (c + 1) = 2 * 2 ^ c := by rw [Int.pow_succ, Int.mul_comm]
  rw [val_lead, val_one, mod_two_cast, Int.emod_eq_of_lt (a := n / 2) (by omega) (by omega)]; omega
theorem bits_val (n : Int) (c : Nat) (h : 0 ≤ n ∧ n < 2 ^ c) : val (bits n c) = n := by rw [val_bits, Int.emod_eq_of_lt h.1 h.2]
theorem number_bits (w : World) (n : Int) (c : Nat) (t : Tok) (h : 0 ≤ n ∧ n < 2 ^ c) (hc : c ≤ 32) : Pure w 20 250 [.str (T (bits n c)) t] (fun v => ∃ t, v = .int n t) := by
  have := law_number_ok w (bits n c) t (by rw [bits_length]; exact hc) (bits_bin n c)
  rwa [bits_val n c h] at this
theorem number_turned (w : World) (n : Int) (c : Nat) (t : Tok) (h : 0 ≤ n ∧ n < 2 ^ (c + 1)) (hc : c ≤ 31) : Pure w 20 250 [.str (T ((n % 2).toNat :: bits (n / 2) c)) t] (fun v => ∃ t, v = .int (n / 2 + n % 2 * 2 ^ c) t) := by
  have := law_number_ok w ([(n % 2).toNat] ++ bits (n / 2) c) t (by rw [List.length_append, bits_length]; show 1 + c ≤ 32; omega) (fun d hd => by
    rcases List.mem_append.mp hd with hd | hd
    · rw [List.mem_singleton.mp hd]; omega
    · exact bits_bin _ _ d hd)
  rwa [turned_val n c h] at this
theorem octets_in (w : World) (n : Int) (t : Tok) (h : 0 ≤ n ∧ n < 536870912) : Pure w 40 262 [.int n t, .bool false] (fun v => ∃ t, v = .bytes (byteArr (spread n (uw n))) t) := by
  have := law_octets_u w n t ⟨by omega, by omega⟩
  unfold Pure at *
  intro mean mg mb dp un gd cn cs a ccd cl outer A₀ base h₀ L m news s Q E B F X N T' hk hd hu hret
  refine this mean mg mb dp un gd cn cs a ccd cl outer A₀ base h₀ L m news s Q E B F X N T' hk hd hu fun v h' tk' r => ?_
  rcases r with ⟨_, _, r⟩ | ⟨r, _⟩
  · exact hret v h' tk' r
  · exact absurd h r
/-- what the law's own look finds at a number of k octets -/
def Looked (ks : List Int) (a way k : Int) (y : Str) (n p : Int) : Prop :=
  if way = 2 then y = Str.ofString "" ∧ n = num ks a k / 2 - num ks a k % 2 * 2 ^ (wb k - 1).toNat ∧ p = a + k
  else if way = 1 ∧ uw (num ks a k) ≠ k then y = Str.ofString "sig" ∧ n = 0 ∧ p = a
  else y = Str.ofString "" ∧ n = num ks a k ∧ p = a + k
theorem look_turn (q r : Int) (c : Nat) : q + r * 2 ^ c - 2 ^ (c + 1) * r = q - r * 2 ^ c := by
  have e : (2 : Int) ^ (c + 1) = 2 * 2 ^ c := by rw [Int.pow_succ, Int.mul_comm]
  rw [e, Int.mul_assoc, Int.mul_comm (2 ^ c) r]
  omega
/-- a fact that a bare search of the context passes over -/
@[irreducible] def Fct (p : Prop) : Prop := p
unseal Fct in
theorem Fct.mk {p : Prop} (h : p) : Fct p := h
unseal Fct in
theorem Fct.get {p : Prop} (h : Fct p) : p := h
theorem looked_0 {ks : List Int} {a k p : Int} (h : p = a + k) : Looked ks a 0 k (Str.ofString "") (num ks a k) p := by
  unfold Looked; rw [if_neg (by decide), if_neg (fun h => absurd h.1 (by decide))]; exact ⟨rfl, rfl, h⟩
theorem looked_s {ks : List Int} {a k : Int} (h : uw (num ks a k) ≠ k) : Looked ks a 1 k (Str.ofString "sig") 0 a := by
  unfold Looked; rw [if_neg (by decide), if_pos ⟨rfl, h⟩]; exact ⟨rfl, rfl, rfl⟩
theorem looked_1 {ks : List Int} {a k p : Int} (h : uw (num ks a k) = k) (hp : p = a + k) : Looked ks a 1 k (Str.ofString "") (num ks a k) p := by
  unfold Looked; rw [if_neg (by decide), if_neg (fun q => q.2 h)]; exact ⟨rfl, rfl, hp⟩
theorem looked_2 {ks : List Int} {a k n p : Int} (hn : n = num ks a k / 2 - num ks a k % 2 * 2 ^ (wb k - 1).toNat) (hp : p = a + k) : Looked ks a 2 k (Str.ofString "") n p := by
  unfold Looked; rw [if_pos rfl]; exact ⟨rfl, hn, hp⟩
theorem octets_no {ks : List Int} (hin : ∀ x ∈ ks, 0 ≤ x ∧ x < 256) {a e k : Int} (h : HasNum ks a e k) (h0 : 0 ≤ a) (he : e ≤ ks.length) {p : Array UInt8} (hp : KBw.bInts p = (ks.drop a.toNat).take k.toNat)
    (hf : ((byteArr (spread (num ks a k) (uw (num ks a k)))).toList != p.toList) = false) : uw (num ks a k) = k := by
  refine Classical.byContradiction fun q => ?_
  rw [(octets_same hin h h0 he hp).mpr q] at hf
  exact Bool.noConfusion hf
theorem num_width {ks : List Int} (hin : ∀ x ∈ ks, 0 ≤ x ∧ x < 256) {a e k : Int} (h : HasNum ks a e k) : num ks a k < 2 ^ (wb k).toNat := by
  have z1 := KBw.getD_in (j := (a + 1).toNat) hin
  have z := num_in hin h
  rcases h with ⟨rfl, h1, h2, h3⟩ | ⟨rfl, h1, h2, h3⟩ | ⟨rfl, h1, h2, h3⟩
  · exact h2
  · rw [num_2, show (2 : Int) ^ (wb 2).toNat = 16384 from by decide]; omega
  · exact z.2


theorem w23 : True := by
  k_with_none
  (k_with "call ref" => ((k_here; refine wpAny_call ?_; k_dflt (walk_at "mine enterF"))))
  (k_with "call type:bytes" => ((k_here; (with_reducible show wpAny _ _ (call (Value.type "bytes") [Value.ref _]) _ _ _); k_dflt (refine' Mine.call_bytes_tuple (by k_asm) (by k_asm) (by rfl) (by exact News.isTup (by k_asm) (by k_mem)) (by kba_listInts) ?_ (by kba_size) ?_; rotate_left); intro _ _ _ F' N' kbaIn)))
  (k_with "exec Raise some none" => ((k_here; (with_reducible show wpAny _ _ (exec (Stmt.Raise (some (Expr.Call (Expr.Name ("BadSig" : Str) _) _ _ _)) none _) _) _ _ _); k_dflt (refine Raise_own (C := 63) rfl ?_))))
  (k_with "exec Raise some none" => ((k_here; (with_reducible show wpAny _ _ (exec (Stmt.Raise (some (Expr.Call (Expr.Name ("BadImage" : Str) _) _ _ _)) none _) _) _ _ _); k_dflt (refine Raise_own (C := 51) rfl ?_))))
  (k_with "call ref" => ((k_here; (with_reducible show wpAny _ _ (call (Value.ref _) [_, _]) (RaisableX _ _) _ _); k_dflt (refine' raise_call _ _ _ _ (by first | exact excC_63 _ | exact excC_51 _) (by k_asm) (by k_asm) (by k_asm) (by k_asm) (by k_asm) (by exact rfl) (by ktr_room) (by ktr_units) ?_; k_whole; intro h' tk' e' t' d' F' N' hne' hnt'; (try dsimp only)))))
  (k_with "leaving ref" => ((k_here; first
  | (refine' leave_mine (by assumption) (by assumption) (by assumption) (by assumption) (by assumption) ?_; k_whole; intro h' R' U'; (try dsimp only))
  | (refine' leave_onS (by assumption) (by assumption) (by assumption) (by assumption) ?_; k_whole; intro h' R' RK' U'; (try dsimp only)))))
  (k_with "binaryOp Pow int int" => ((k_here; dsimp only; walk_at "binaryOp Pow int int")))
  (k_with "mine k_all" => (first | assumption | exact ne_lt (by assumption) | exact ne_succ (by assumption) | exact ne_lt (allLt_mem (And.right (by assumption))) | exact ne_lt (allLt_mem (And.right (And.right (by assumption))))))
  (k_with "mine kct_one" => (first | with_reducible exact lead_0 | with_reducible exact lead_10 | with_reducible exact lead_110 | with_reducible exact bits_from1 _ _ (by decide) | with_reducible exact bits_item0 _ _ (by decide) | with_reducible rfl))
  (k_with "binaryOp Add str str" => ((k_here; (refine addT (by kct_one) (by kct_one) (by simp [bits_length]) ?_); intro _ _)))
  (k_with "call builtin:len" => ((k_here; (with_reducible show wpAny _ _ (call (Value.builtin "len") [Value.str (T _) _]) _ _ _); (refine lenT (by simp [bits_length]) ?_))))
  (k_with "UnrEndW" => ((refine unrEnd1 (by assumption) (by assumption) (ne_lt (allLt_mem (by assumption))) ⟨trivial, ?_⟩)))
  (k_with "subscriptTail" => ((k_here; (with_reducible show wpAny _ _ (subscriptTail _ _ (Value.str (T _) _) (Value.int _ _)) _ _ _); (refine itemT (by first | decide | omega) (by first | (simp [bits_length]; done) | (simp [bits_length]; omega)) (by simp [bits_length]) ?_))))
  (k_with "call builtin:str.startswith" => ((k_here; (with_reducible show wpAny _ _ (call (Value.builtin "str.startswith") [Value.str (T (bits _ _)) _, Value.str _ _]) _ _ _); k_dflt (refine swA _ (Fct.get (by assumption)) ?_))))
  (k_with "call builtin:str.index" => ((k_here; (with_reducible show wpAny _ _ (call (Value.builtin "str.index") [Value.str _ _, Value.str (Txt.item _ _) _]) _ _ _); k_dflt (refine index_bit _ (Fct.get (by assumption)) ?_))))
  (k_with "UnrEndW" => ((first | refine unrEnd1 (by assumption) (by assumption) (ne_lt (by assumption)) ⟨trivial, ?_⟩ | refine unrEnd1 (by assumption) (by assumption) (ne_lt (allLt_mem (by assumption))) ⟨trivial, ?_⟩)))
  (k_with "mine kxi_size" => ((first | (show (T _).length ≤ _; rw [T_length]; (try rw [PySem.sizeLine_eq]); first | (rw [bits_length]; decide) | (rw [Z_length, List.length_take]; omega)) | (with_unfolding_all exact Nat.le_of_ble_eq_true rfl))))
  (k_with "subscriptTail" => ((k_here; (with_reducible show wpAny _ _ (subscriptTail _ (Expr.Slice (some _) none none _) (Value.str (T (Z _)) _) (Value.ref _)) _ _ _); (with_reducible rename Fr _ _ _ _ => F'); (with_reducible rename News _ _ _ _ => N'); (refine slice_Z (s := ⟨_, _, _, _, _⟩) F' N' rfl (Fct.get (by assumption)) (by (rw [Z_length, List.length_take, List.length_drop]; omega)) (by (rw [Z_length, List.length_take, List.length_drop]; omega)) ?_); intro _ _ _ _ _)))
  (k_with "mine kct_one" => (exact Fct.get (by assumption)))
  (k_with "call ref" => ((k_here; (with_reducible show wpAny _ _ (call (Value.ref 250) [Value.str (T (bits _ _)) _]) _ _ _); k_dflt ((refine Pure.useR (by k_asm) (by k_asm) (by k_asm) (by k_asm) (by k_asm) (by first | exact rfl | assumption) (by ktr_room) (by ktr_units) (number_bits _ _ _ _ (Fct.get (by assumption)) (by decide)) ?_; k_whole; intro v' h' tk' R' F' N'; first | (obtain ⟨t', e'⟩ := R'; subst e') | (obtain ⟨z', hz', t', e'⟩ := R'; subst e') | subst R'; (try dsimp only); (try k_fold))))))
  (k_with "call ref" => ((k_here; (with_reducible show wpAny _ _ (call (Value.ref 250) [Value.str (T (_ :: _)) _]) _ _ _); k_dflt ((refine Pure.useR (by k_asm) (by k_asm) (by k_asm) (by k_asm) (by k_asm) (by first | exact rfl | assumption) (by ktr_room) (by ktr_units) (number_turned _ _ _ _ (Fct.get (by assumption)) (by decide)) ?_; k_whole; intro v' h' tk' R' F' N'; first | (obtain ⟨t', e'⟩ := R'; subst e') | (obtain ⟨z', hz', t', e'⟩ := R'; subst e') | subst R'; (try dsimp only); (try k_fold))))))
  (k_with "call ref" => ((k_here; (with_reducible show wpAny _ _ (call (Value.ref 262) [Value.int _ _, _]) _ _ _); k_dflt ((refine Pure.useR (by k_asm) (by k_asm) (by k_asm) (by k_asm) (by k_asm) (by first | exact rfl | assumption) (by ktr_room) (by ktr_units) (octets_in _ _ _ ⟨by omega, by omega⟩) ?_; k_whole; intro v' h' tk' R' F' N'; first | (obtain ⟨t', e'⟩ := R'; subst e') | (obtain ⟨z', hz', t', e'⟩ := R'; subst e') | subst R'; (try dsimp only); (try k_fold))))))
  (k_with "eval Call" => ((k_here; (with_reducible show wpAny _ _ (eval (Expr.Call (Expr.Name ("_law_number" : Str) _) _ _ _) _) _ _ _); k_dflt (refine Call_Name (by rfl) ?_))))
  (k_with "eval Call" => ((k_here; (with_reducible show wpAny _ _ (eval (Expr.Call (Expr.Name ("_law_octets" : Str) _) _ _ _) _) _ _ _); k_dflt (refine Call_Name (by rfl) ?_))))
  trivial
section
theorem w24 : True := by
  (k_with "call ref" => ((k_here; (with_reducible show wpAny _ _ (call (Value.ref 243) [Value.int _ _, Value.int _ _]) _ _ _); k_dflt ((refine Pure.useR (by k_asm) (by k_asm) (by k_asm) (by k_asm) (by k_asm) (by first | exact rfl | assumption) (by ktr_room) (by ktr_units) (law_digits_ok _ _ _ _ _ (by omega) (by omega)) ?_; k_whole; intro v' h' tk' R' F' N'; first | (obtain ⟨t', e'⟩ := R'; subst e') | (obtain ⟨z', hz', t', e'⟩ := R'; subst e') | subst R'; (try dsimp only); (try k_fold))))))
  (k_with "eval Call" => ((k_here; (with_reducible show wpAny _ _ (eval (Expr.Call (Expr.Name ("_law_digits" : Str) _) _ _ _) _) _ _ _); k_dflt (refine Call_Name (by rfl) ?_))))
  (k_with "eval ListComp" => ((k_here; k_dflt (refine ListComp_M (by k_asm) (by with_unfolding_all rfl) (by decide) (by rfl) (by decide) (by rfl) ?_))))
  trivial
theorem look_2 (w : World) (b : Array UInt8) (ks : List Int) (t ta tw : Tok) (a way : Int) (hw : way = 0 ∨ way = 1 ∨ way = 2) (hb : KBw.bInts b = ks) (h0 : 0 ≤ a) (hsz : ks.length ≤ 100000) (h1 : 128 ≤ ks.getD a.toNat 0) (h2 : ks.getD a.toNat 0 < 192) (h3 : a + 1 < ks.length) (news : List (Addr × Obj)) :
    Call w 60 267 [.bytes b t, .int a ta, .int way tw] news
    (fun v nw => ∃ T' ts tn tp y n p, Looked ks a way 2 y n p ∧ nw = (T', { cls := .type "tuple", data := .seq [.str y ts, .int n tn, .int p tp].toArray }) :: news ∧ v = .ref T') (fun C nw => False) := by
  have hin : ∀ k ∈ ks, 0 ≤ k ∧ k < 256 := hb ▸ bInts_in b
  have hz := Fct.mk (z_2 hin h0 (by omega))
  have hN : HasNum ks a ks.length 2 := .inr (.inl ⟨rfl, h1, h2, h3⟩)
  have hn := num_in hin hN
  have hn2 : Fct (0 ≤ num ks a 2 ∧ num ks a 2 < 2 ^ (13 + 1)) := Fct.mk ⟨hn.1, num_width hin hN⟩
  have f1 : Fct (Txt.item (T (bits (num ks a 2) 14)) (14 - 1) = T [(num ks a 2 % 2).toNat]) := Fct.mk (bits_last (num ks a 2) 13)
  have f2 : Fct (Txt.slice (T (bits (num ks a 2) 14)) none (some (14 - 1)) = T (bits (num ks a 2 / 2) 13)) := Fct.mk (bits_front (num ks a 2) 13)
  have f3 := Fct.mk (turned_first (num ks a 2 % 2).toNat (bits (num ks a 2 / 2) 13))
  unfold Call
  k_fill
  intro mean mg mb dp un gd cn cs ad ccd outer A₀ base h₀ L m s Q E B F X N TT hk hd hu hret hexc
  refine wpAny_call ?_
  k_dflt cell_enter
  have ne : ¬ (a = (ks.length : Int)) := by omega
  have q0 := Fct.mk (sw0 (n := ks.getD a.toNat 0) ⟨by omega, by omega⟩ false (iff_of_false (by decide) (by omega)))
  have q1 := Fct.mk (sw10 (n := ks.getD a.toNat 0) ⟨by omega, by omega⟩ true (iff_of_true rfl (by omega)))
  k_steps
  · exact absurd (by assumption) ne
  refine look_src hb 2 h0 (by omega) hsz (congrArg (a + ·) (by decide +kernel)) rfl (by assumption) (by assumption) ?_
  intro p hp
  rintro s₂ ⟨h₂, rfl⟩
  refine rest_map StrsAre (fun a y => ∃ t, y = .str a t) .nil (fun vs xs a y h1 h2 => by obtain ⟨t, rfl⟩ := h2; exact kct_snoc h1) (fun i => T (bits ((KBw.bInts p).getD i 0) 8)) ?_ ?_
  · intro i v I oI C oC D m₂ ys h tk E' hi hP hC hx F' N' off ne
    obtain ⟨c, t1, hc, rfl⟩ := hP
    have hc2 := KBw.ints_get hc
    have hc3 := c.toNat_lt
    k_steps
    refine LCg.CompEnd.intro (by assumption) (by assumption) _ (fun p hp => hp) off trivial ⟨rfl, ?_⟩
    rw [List.getD_eq_getElem?_getD, hc2]
    exact ⟨_, rfl⟩
  · intro ys hys
    rw [range_ints (fun n => T (bits n 8)), hp] at hys
    k_steps
    refine join_list (News.isList (by assumption) (by k_mem)) hys ?_ ?_
    · rw [sum_Z, List.length_map]
      show 8 * _ + _ * 0 ≤ 16777216
      rw [List.length_take]; omega
    intro t9 k9
    rw [join_Z]
    rcases hw with rfl | rfl | rfl
    · k_steps
      exact hret _ _ _ _ ⟨_, _, _, _, _, _, _, looked_0 (congrArg (a + ·) (show (14 + ((2 : Nat) : Int) : Int).fdiv 8 = 2 by decide +kernel)), rfl, rfl⟩ (by k_asm) (sub_top (l1 := [_, _]) (by assumption))
    · k_steps
      · exact hret _ _ _ _ ⟨_, _, _, _, _, _, _, looked_s ((octets_same hin hN h0 (Int.le_refl _) (pick_ints hb (e := a + (14 + ((2 : Nat) : Int) : Int).fdiv 8) 2 rfl h0 (by omega))).mp (by assumption)), rfl, rfl⟩ (by k_asm) (sub_top (l1 := [_, _]) (by assumption))
      · exact hret _ _ _ _ ⟨_, _, _, _, _, _, _, looked_1 (octets_no hin hN h0 (Int.le_refl _) (pick_ints hb (e := a + (14 + ((2 : Nat) : Int) : Int).fdiv 8) 2 rfl h0 (by omega)) (by assumption)) (congrArg (a + ·) (show (14 + ((2 : Nat) : Int) : Int).fdiv 8 = 2 by decide +kernel)), rfl, rfl⟩ (by k_asm) (sub_top (l1 := [_, _]) (by assumption))
    · k_steps
      exact hret _ _ _ _ ⟨_, _, _, _, _, _, _, looked_2 (look_turn _ _ 13) (congrArg (a + ·) (show (14 + ((2 : Nat) : Int) : Int).fdiv 8 = 2 by decide +kernel)), rfl, rfl⟩ (by k_asm) (sub_top (l1 := [_, _]) (by assumption))
end

theorem w25 : True := by
  k_with_none
  (k_with "call ref" => ((k_here; refine wpAny_call ?_; k_dflt (walk_at "mine enterF"))))
  (k_with "call type:bytes" => ((k_here; (with_reducible show wpAny _ _ (call (Value.type "bytes") [Value.ref _]) _ _ _); k_dflt (refine' Mine.call_bytes_tuple (by k_asm) (by k_asm) (by rfl) (by exact News.isTup (by k_asm) (by k_mem)) (by kba_listInts) ?_ (by kba_size) ?_; rotate_left); intro _ _ _ F' N' kbaIn)))
  (k_with "exec Raise some none" => ((k_here; (with_reducible show wpAny _ _ (exec (Stmt.Raise (some (Expr.Call (Expr.Name ("BadSig" : Str) _) _ _ _)) none _) _) _ _ _); k_dflt (refine Raise_own (C := 63) rfl ?_))))
  (k_with "exec Raise some none" => ((k_here; (with_reducible show wpAny _ _ (exec (Stmt.Raise (some (Expr.Call (Expr.Name ("BadImage" : Str) _) _ _ _)) none _) _) _ _ _); k_dflt (refine Raise_own (C := 51) rfl ?_))))
  (k_with "call ref" => ((k_here; (with_reducible show wpAny _ _ (call (Value.ref _) [_, _]) (RaisableX _ _) _ _); k_dflt (refine' raise_call _ _ _ _ (by first | exact excC_63 _ | exact excC_51 _) (by k_asm) (by k_asm) (by k_asm) (by k_asm) (by k_asm) (by exact rfl) (by ktr_room) (by ktr_units) ?_; k_whole; intro h' tk' e' t' d' F' N' hne' hnt'; (try dsimp only)))))
  (k_with "leaving ref" => ((k_here; first
  | (refine' leave_mine (by assumption) (by assumption) (by assumption) (by assumption) (by assumption) ?_; k_whole; intro h' R' U'; (try dsimp only))
  | (refine' leave_onS (by assumption) (by assumption) (by assumption) (by assumption) ?_; k_whole; intro h' R' RK' U'; (try dsimp only)))))
  (k_with "binaryOp Pow int int" => ((k_here; dsimp only; walk_at "binaryOp Pow int int")))
  (k_with "mine k_all" => (first | assumption | exact ne_lt (by assumption) | exact ne_succ (by assumption) | exact ne_lt (allLt_mem (And.right (by assumption))) | exact ne_lt (allLt_mem (And.right (And.right (by assumption))))))
  (k_with "mine kct_one" => (first | with_reducible exact lead_0 | with_reducible exact lead_10 | with_reducible exact lead_110 | with_reducible exact bits_from1 _ _ (by decide) | with_reducible exact bits_item0 _ _ (by decide) | with_reducible rfl))
  (k_with "binaryOp Add str str" => ((k_here; (refine addT (by kct_one) (by kct_one) (by simp [bits_length]) ?_); intro _ _)))
  (k_with "call builtin:len" => ((k_here; (with_reducible show wpAny _ _ (call (Value.builtin "len") [Value.str (T _) _]) _ _ _); (refine lenT (by simp [bits_length]) ?_))))
  (k_with "UnrEndW" => ((refine unrEnd1 (by assumption) (by assumption) (ne_lt (allLt_mem (by assumption))) ⟨trivial, ?_⟩)))
  (k_with "subscriptTail" => ((k_here; (with_reducible show wpAny _ _ (subscriptTail _ _ (Value.str (T _) _) (Value.int _ _)) _ _ _); (refine itemT (by first | decide | omega) (by first | (simp [bits_length]; done) | (simp [bits_length]; omega)) (by simp [bits_length]) ?_))))
  (k_with "call builtin:str.startswith" => ((k_here; (with_reducible show wpAny _ _ (call (Value.builtin "str.startswith") [Value.str (T (bits _ _)) _, Value.str _ _]) _ _ _); k_dflt (refine swA _ (Fct.get (by assumption)) ?_))))
  (k_with "call builtin:str.index" => ((k_here; (with_reducible show wpAny _ _ (call (Value.builtin "str.index") [Value.str _ _, Value.str (Txt.item _ _) _]) _ _ _); k_dflt (refine index_bit _ (Fct.get (by assumption)) ?_))))
  (k_with "UnrEndW" => ((first | refine unrEnd1 (by assumption) (by assumption) (ne_lt (by assumption)) ⟨trivial, ?_⟩ | refine unrEnd1 (by assumption) (by assumption) (ne_lt (allLt_mem (by assumption))) ⟨trivial, ?_⟩)))
  (k_with "mine kxi_size" => ((first | (show (T _).length ≤ _; rw [T_length]; (try rw [PySem.sizeLine_eq]); first | (rw [bits_length]; decide) | (rw [Z_length, List.length_take]; omega)) | (with_unfolding_all exact Nat.le_of_ble_eq_true rfl))))
  (k_with "subscriptTail" => ((k_here; (with_reducible show wpAny _ _ (subscriptTail _ (Expr.Slice (some _) none none _) (Value.str (T (Z _)) _) (Value.ref _)) _ _ _); (with_reducible rename Fr _ _ _ _ => F'); (with_reducible rename News _ _ _ _ => N'); (refine slice_Z (s := ⟨_, _, _, _, _⟩) F' N' rfl (Fct.get (by assumption)) (by (rw [Z_length, List.length_take, List.length_drop]; omega)) (by (rw [Z_length, List.length_take, List.length_drop]; omega)) ?_); intro _ _ _ _ _)))
  (k_with "mine kct_one" => (exact Fct.get (by assumption)))
  (k_with "call ref" => ((k_here; (with_reducible show wpAny _ _ (call (Value.ref 250) [Value.str (T (bits _ _)) _]) _ _ _); k_dflt ((refine Pure.useR (by k_asm) (by k_asm) (by k_asm) (by k_asm) (by k_asm) (by first | exact rfl | assumption) (by ktr_room) (by ktr_units) (number_bits _ _ _ _ (Fct.get (by assumption)) (by decide)) ?_; k_whole; intro v' h' tk' R' F' N'; first | (obtain ⟨t', e'⟩ := R'; subst e') | (obtain ⟨z', hz', t', e'⟩ := R'; subst e') | subst R'; (try dsimp only); (try k_fold))))))
  (k_with "call ref" => ((k_here; (with_reducible show wpAny _ _ (call (Value.ref 250) [Value.str (T (_ :: _)) _]) _ _ _); k_dflt ((refine Pure.useR (by k_asm) (by k_asm) (by k_asm) (by k_asm) (by k_asm) (by first | exact rfl | assumption) (by ktr_room) (by ktr_units) (number_turned _ _ _ _ (Fct.get (by assumption)) (by decide)) ?_; k_whole; intro v' h' tk' R' F' N'; first | (obtain ⟨t', e'⟩ := R'; subst e') | (obtain ⟨z', hz', t', e'⟩ := R'; subst e') | subst R'; (try dsimp only); (try k_fold))))))
  (k_with "call ref" => ((k_here; (with_reducible show wpAny _ _ (call (Value.ref 262) [Value.int _ _, _]) _ _ _); k_dflt ((refine Pure.useR (by k_asm) (by k_asm) (by k_asm) (by k_asm) (by k_asm) (by first | exact rfl | assumption) (by ktr_room) (by ktr_units) (octets_in _ _ _ ⟨by omega, by omega⟩) ?_; k_whole; intro v' h' tk' R' F' N'; first | (obtain ⟨t', e'⟩ := R'; subst e') | (obtain ⟨z', hz', t', e'⟩ := R'; subst e') | subst R'; (try dsimp only); (try k_fold))))))
  (k_with "eval Call" => ((k_here; (with_reducible show wpAny _ _ (eval (Expr.Call (Expr.Name ("_law_number" : Str) _) _ _ _) _) _ _ _); k_dflt (refine Call_Name (by rfl) ?_))))
  (k_with "eval Call" => ((k_here; (with_reducible show wpAny _ _ (eval (Expr.Call (Expr.Name ("_law_octets" : Str) _) _ _ _) _) _ _ _); k_dflt (refine Call_Name (by rfl) ?_))))
  trivial
end
section


theorem w26 : True := by
  k_with_none
  (k_with "call ref" => ((k_here; refine wpAny_call ?_; k_dflt (walk_at "mine enterF"))))
  (k_with "call type:bytes" => ((k_here; (with_reducible show wpAny _ _ (call (Value.type "bytes") [Value.ref _]) _ _ _); k_dflt (refine' Mine.call_bytes_tuple (by k_asm) (by k_asm) (by rfl) (by exact News.isTup (by k_asm) (by k_mem)) (by kba_listInts) ?_ (by kba_size) ?_; rotate_left); intro _ _ _ F' N' kbaIn)))
  (k_with "exec Raise some none" => ((k_here; (with_reducible show wpAny _ _ (exec (Stmt.Raise (some (Expr.Call (Expr.Name ("BadSig" : Str) _) _ _ _)) none _) _) _ _ _); k_dflt (refine Raise_own (C := 63) rfl ?_))))
  (k_with "exec Raise some none" => ((k_here; (with_reducible show wpAny _ _ (exec (Stmt.Raise (some (Expr.Call (Expr.Name ("BadImage" : Str) _) _ _ _)) none _) _) _ _ _); k_dflt (refine Raise_own (C := 51) rfl ?_))))
  (k_with "call ref" => ((k_here; (with_reducible show wpAny _ _ (call (Value.ref _) [_, _]) (RaisableX _ _) _ _); k_dflt (refine' raise_call _ _ _ _ (by first | exact excC_63 _ | exact excC_51 _) (by k_asm) (by k_asm) (by k_asm) (by k_asm) (by k_asm) (by exact rfl) (by ktr_room) (by ktr_units) ?_; k_whole; intro h' tk' e' t' d' F' N' hne' hnt'; (try dsimp only)))))
  (k_with "leaving ref" => ((k_here; first
  | (refine' leave_mine (by assumption) (by assumption) (by assumption) (by assumption) (by assumption) ?_; k_whole; intro h' R' U'; (try dsimp only))
  | (refine' leave_onS (by assumption) (by assumption) (by assumption) (by assumption) ?_; k_whole; intro h' R' RK' U'; (try dsimp only)))))
  (k_with "binaryOp Pow int int" => ((k_here; dsimp only; walk_at "binaryOp Pow int int")))
  (k_with "mine k_all" => (first | assumption | exact ne_lt (by assumption) | exact ne_succ (by assumption) | exact ne_lt (allLt_mem (And.right (by assumption))) | exact ne_lt (allLt_mem (And.right (And.right (by assumption))))))
  (k_with "mine kct_one" => (first | with_reducible exact lead_0 | with_reducible exact lead_10 | with_reducible exact lead_110 | with_reducible exact bits_from1 _ _ (by decide) | with_reducible exact bits_item0 _ _ (by decide) | with_reducible rfl))
  (k_with "binaryOp Add str str" => ((k_here; (refine addT (by kct_one) (by kct_one) (by simp [bits_length]) ?_); intro _ _)))
  (k_with "call builtin:len" => ((k_here; (with_reducible show wpAny _ _ (call (Value.builtin "len") [Value.str (T _) _]) _ _ _); (refine lenT (by simp [bits_length]) ?_))))
  (k_with "UnrEndW" => ((refine unrEnd1 (by assumption) (by assumption) (ne_lt (allLt_mem (by assumption))) ⟨trivial, ?_⟩)))
  (k_with "subscriptTail" => ((k_here; (with_reducible show wpAny _ _ (subscriptTail _ _ (Value.str (T _) _) (Value.int _ _)) _ _ _); (refine itemT (by first | decide | omega) (by first | (simp [bits_length]; done) | (simp [bits_length]; omega)) (by simp [bits_length]) ?_))))
  (k_with "call builtin:str.startswith" => ((k_here; (with_reducible show wpAny _ _ (call (Value.builtin "str.startswith") [Value.str (T (bits _ _)) _, Value.str _ _]) _ _ _); k_dflt (refine swA _ (Fct.get (by assumption)) ?_))))
  (k_with "call builtin:str.index" => ((k_here; (with_reducible show wpAny _ _ (call (Value.builtin "str.index") [Value.str _ _, Value.str (Txt.item _ _) _]) _ _ _); k_dflt (refine index_bit _ (Fct.get (by assumption)) ?_))))
  (k_with "UnrEndW" => ((first | refine unrEnd1 (by assumption) (by assumption) (ne_lt (by assumption)) ⟨trivial, ?_⟩ | refine unrEnd1 (by assumption) (by assumption) (ne_lt (allLt_mem (by assumption))) ⟨trivial, ?_⟩)))
  (k_with "mine kxi_size" => ((first | (show (T _).length ≤ _; rw [T_length]; (try rw [PySem.sizeLine_eq]); first | (rw [bits_length]; decide) | (rw [Z_length, List.length_take]; omega)) | (with_unfolding_all exact Nat.le_of_ble_eq_true rfl))))
  (k_with "subscriptTail" => ((k_here; (with_reducible show wpAny _ _ (subscriptTail _ (Expr.Slice (some _) none none _) (Value.str (T (Z _)) _) (Value.ref _)) _ _ _); (with_reducible rename Fr _ _ _ _ => F'); (with_reducible rename News _ _ _ _ => N'); (refine slice_Z (s := ⟨_, _, _, _, _⟩) F' N' rfl (Fct.get (by assumption)) (by (rw [Z_length, List.length_take, List.length_drop]; omega)) (by (rw [Z_length, List.length_take, List.length_drop]; omega)) ?_); intro _ _ _ _ _)))
  (k_with "mine kct_one" => (exact Fct.get (by assumption)))
  (k_with "call ref" => ((k_here; (with_reducible show wpAny _ _ (call (Value.ref 250) [Value.str (T (bits _ _)) _]) _ _ _); k_dflt ((refine Pure.useR (by k_asm) (by k_asm) (by k_asm) (by k_asm) (by k_asm) (by first | exact rfl | assumption) (by ktr_room) (by ktr_units) (number_bits _ _ _ _ (Fct.get (by assumption)) (by decide)) ?_; k_whole; intro v' h' tk' R' F' N'; first | (obtain ⟨t', e'⟩ := R'; subst e') | (obtain ⟨z', hz', t', e'⟩ := R'; subst e') | subst R'; (try dsimp only); (try k_fold))))))
  (k_with "call ref" => ((k_here; (with_reducible show wpAny _ _ (call (Value.ref 250) [Value.str (T (_ :: _)) _]) _ _ _); k_dflt ((refine Pure.useR (by k_asm) (by k_asm) (by k_asm) (by k_asm) (by k_asm) (by first | exact rfl | assumption) (by ktr_room) (by ktr_units) (number_turned _ _ _ _ (Fct.get (by assumption)) (by decide)) ?_; k_whole; intro v' h' tk' R' F' N'; first | (obtain ⟨t', e'⟩ := R'; subst e') | (obtain ⟨z', hz', t', e'⟩ := R'; subst e') | subst R'; (try dsimp only); (try k_fold))))))
  (k_with "call ref" => ((k_here; (with_reducible show wpAny _ _ (call (Value.ref 262) [Value.int _ _, _]) _ _ _); k_dflt ((refine Pure.useR (by k_asm) (by k_asm) (by k_asm) (by k_asm) (by k_asm) (by first | exact rfl | assumption) (by ktr_room) (by ktr_units) (octets_in _ _ _ ⟨by omega, by omega⟩) ?_; k_whole; intro v' h' tk' R' F' N'; first | (obtain ⟨t', e'⟩ := R'; subst e') | (obtain ⟨z', hz', t', e'⟩ := R'; subst e') | subst R'; (try dsimp only); (try k_fold))))))
  (k_with "eval Call" => ((k_here; (with_reducible show wpAny _ _ (eval (Expr.Call (Expr.Name ("_law_number" : Str) _) _ _ _) _) _ _ _); k_dflt (refine Call_Name (by rfl) ?_))))
  (k_with "eval Call" => ((k_here; (with_reducible show wpAny _ _ (eval (Expr.Call (Expr.Name ("_law_octets" : Str) _) _ _ _) _) _ _ _); k_dflt (refine Call_Name (by rfl) ?_))))
  trivial
section
theorem w27 : True := by
  (k_with "call ref" => ((k_here; (with_reducible show wpAny _ _ (call (Value.ref 243) [Value.int _ _, Value.int _ _]) _ _ _); k_dflt ((refine Pure.useR (by k_asm) (by k_asm) (by k_asm) (by k_asm) (by k_asm) (by first | exact rfl | assumption) (by ktr_room) (by ktr_units) (law_digits_ok _ _ _ _ _ (by omega) (by omega)) ?_; k_whole; intro v' h' tk' R' F' N'; first | (obtain ⟨t', e'⟩ := R'; subst e') | (obtain ⟨z', hz', t', e'⟩ := R'; subst e') | subst R'; (try dsimp only); (try k_fold))))))
  (k_with "eval Call" => ((k_here; (with_reducible show wpAny _ _ (eval (Expr.Call (Expr.Name ("_law_digits" : Str) _) _ _ _) _) _ _ _); k_dflt (refine Call_Name (by rfl) ?_))))
  (k_with "eval ListComp" => ((k_here; k_dflt (refine ListComp_M (by k_asm) (by with_unfolding_all rfl) (by decide) (by rfl) (by decide) (by rfl) ?_))))
  trivial
theorem look_1 (w : World) (b : Array UInt8) (ks : List Int) (t ta tw : Tok) (a way : Int) (hw : way = 0 ∨ way = 1 ∨ way = 2) (hb : KBw.bInts b = ks) (h0 : 0 ≤ a) (hsz : ks.length ≤ 100000) (h1 : 0 ≤ ks.getD a.toNat 0) (h2 : ks.getD a.toNat 0 < 128) (h3 : a + 0 < ks.length) (news : List (Addr × Obj)) :
    Call w 60 267 [.bytes b t, .int a ta, .int way tw] news
    (fun v nw => ∃ T' ts tn tp y n p, Looked ks a way 1 y n p ∧ nw = (T', { cls := .type "tuple", data := .seq [.str y ts, .int n tn, .int p tp].toArray }) :: news ∧ v = .ref T') (fun C nw => False) := by
  have hin : ∀ k ∈ ks, 0 ≤ k ∧ k < 256 := hb ▸ bInts_in b
  have hz := Fct.mk (z_1 (ks := ks) h0 (by omega))
  have hN : HasNum ks a ks.length 1 := .inl ⟨rfl, h1, h2, by omega⟩
  have hn := num_in hin hN
  have hn2 : Fct (0 ≤ num ks a 1 ∧ num ks a 1 < 2 ^ (6 + 1)) := Fct.mk ⟨hn.1, num_width hin hN⟩
  have f1 : Fct (Txt.item (T (bits (num ks a 1) 7)) (7 - 1) = T [(num ks a 1 % 2).toNat]) := Fct.mk (bits_last (num ks a 1) 6)
  have f2 : Fct (Txt.slice (T (bits (num ks a 1) 7)) none (some (7 - 1)) = T (bits (num ks a 1 / 2) 6)) := Fct.mk (bits_front (num ks a 1) 6)
  have f3 := Fct.mk (turned_first (num ks a 1 % 2).toNat (bits (num ks a 1 / 2) 6))
  unfold Call
  k_fill
  intro mean mg mb dp un gd cn cs ad ccd outer A₀ base h₀ L m s Q E B F X N TT hk hd hu hret hexc
  refine wpAny_call ?_
  k_dflt cell_enter
  have ne : ¬ (a = (ks.length : Int)) := by omega
  have q0 := Fct.mk (sw0 (n := ks.getD a.toNat 0) ⟨by omega, by omega⟩ true (iff_of_true rfl (by omega)))
  k_steps
  · exact absurd (by assumption) ne
  refine look_src hb 1 h0 (by omega) hsz (congrArg (a + ·) (by decide +kernel)) rfl (by assumption) (by assumption) ?_
  intro p hp
  rintro s₂ ⟨h₂, rfl⟩
  refine rest_map StrsAre (fun a y => ∃ t, y = .str a t) .nil (fun vs xs a y h1 h2 => by obtain ⟨t, rfl⟩ := h2; exact kct_snoc h1) (fun i => T (bits ((KBw.bInts p).getD i 0) 8)) ?_ ?_
  · intro i v I oI C oC D m₂ ys h tk E' hi hP hC hx F' N' off ne
    obtain ⟨c, t1, hc, rfl⟩ := hP
    have hc2 := KBw.ints_get hc
    have hc3 := c.toNat_lt
    k_steps
    refine LCg.CompEnd.intro (by assumption) (by assumption) _ (fun p hp => hp) off trivial ⟨rfl, ?_⟩
    rw [List.getD_eq_getElem?_getD, hc2]
    exact ⟨_, rfl⟩
  · intro ys hys
    rw [range_ints (fun n => T (bits n 8)), hp] at hys
    k_steps
    refine join_list (News.isList (by assumption) (by k_mem)) hys ?_ ?_
    · rw [sum_Z, List.length_map]
      show 8 * _ + _ * 0 ≤ 16777216
      rw [List.length_take]; omega
    intro t9 k9
    rw [join_Z]
    rcases hw with rfl | rfl | rfl
    · k_steps
      exact hret _ _ _ _ ⟨_, _, _, _, _, _, _, looked_0 (congrArg (a + ·) (show (7 + ((1 : Nat) : Int) : Int).fdiv 8 = 1 by decide +kernel)), rfl, rfl⟩ (by k_asm) (sub_top (l1 := [_, _]) (by assumption))
    · k_steps
      · exact hret _ _ _ _ ⟨_, _, _, _, _, _, _, looked_s ((octets_same hin hN h0 (Int.le_refl _) (pick_ints hb (e := a + (7 + ((1 : Nat) : Int) : Int).fdiv 8) 1 rfl h0 (by omega))).mp (by assumption)), rfl, rfl⟩ (by k_asm) (sub_top (l1 := [_, _]) (by assumption))
      · exact hret _ _ _ _ ⟨_, _, _, _, _, _, _, looked_1 (octets_no hin hN h0 (Int.le_refl _) (pick_ints hb (e := a + (7 + ((1 : Nat) : Int) : Int).fdiv 8) 1 rfl h0 (by omega)) (by assumption)) (congrArg (a + ·) (show (7 + ((1 : Nat) : Int) : Int).fdiv 8 = 1 by decide +kernel)), rfl, rfl⟩ (by k_asm) (sub_top (l1 := [_, _]) (by assumption))
    · k_steps
      exact hret _ _ _ _ ⟨_, _, _, _, _, _, _, looked_2 (look_turn _ _ 6) (congrArg (a + ·) (show (7 + ((1 : Nat) : Int) : Int).fdiv 8 = 1 by decide +kernel)), rfl, rfl⟩ (by k_asm) (sub_top (l1 := [_, _]) (by assumption))
end

theorem w28 : True := by
  k_with_none
  (k_with "call ref" => ((k_here; refine wpAny_call ?_; k_dflt (walk_at "mine enterF"))))
  (k_with "call type:bytes" => ((k_here; (with_reducible show wpAny _ _ (call (Value.type "bytes") [Value.ref _]) _ _ _); k_dflt (refine' Mine.call_bytes_tuple (by k_asm) (by k_asm) (by rfl) (by exact News.isTup (by k_asm) (by k_mem)) (by kba_listInts) ?_ (by kba_size) ?_; rotate_left); intro _ _ _ F' N' kbaIn)))
  (k_with "exec Raise some none" => ((k_here; (with_reducible show wpAny _ _ (exec (Stmt.Raise (some (Expr.Call (Expr.Name ("BadSig" : Str) _) _ _ _)) none _) _) _ _ _); k_dflt (refine Raise_own (C := 63) rfl ?_))))
  (k_with "exec Raise some none" => ((k_here; (with_reducible show wpAny _ _ (exec (Stmt.Raise (some (Expr.Call (Expr.Name ("BadImage" : Str) _) _ _ _)) none _) _) _ _ _); k_dflt (refine Raise_own (C := 51) rfl ?_))))
  (k_with "call ref" => ((k_here; (with_reducible show wpAny _ _ (call (Value.ref _) [_, _]) (RaisableX _ _) _ _); k_dflt (refine' raise_call _ _ _ _ (by first | exact excC_63 _ | exact excC_51 _) (by k_asm) (by k_asm) (by k_asm) (by k_asm) (by k_asm) (by exact rfl) (by ktr_room) (by ktr_units) ?_; k_whole; intro h' tk' e' t' d' F' N' hne' hnt'; (try dsimp only)))))
  (k_with "leaving ref" => ((k_here; first
  | (refine' leave_mine (by assumption) (by assumption) (by assumption) (by assumption) (by assumption) ?_; k_whole; intro h' R' U'; (try dsimp only))
  | (refine' leave_onS (by assumption) (by assumption) (by assumption) (by assumption) ?_; k_whole; intro h' R' RK' U'; (try dsimp only)))))
  (k_with "binaryOp Pow int int" => ((k_here; dsimp only; walk_at "binaryOp Pow int int")))
  (k_with "mine k_all" => (first | assumption | exact ne_lt (by assumption) | exact ne_succ (by assumption) | exact ne_lt (allLt_mem (And.right (by assumption))) | exact ne_lt (allLt_mem (And.right (And.right (by assumption))))))
  (k_with "mine kct_one" => (first | with_reducible exact lead_0 | with_reducible exact lead_10 | with_reducible exact lead_110 | with_reducible exact bits_from1 _ _ (by decide) | with_reducible exact bits_item0 _ _ (by decide) | with_reducible rfl))
  (k_with "binaryOp Add str str" => ((k_here; (refine addT (by kct_one) (by kct_one) (by simp [bits_length]) ?_); intro _ _)))
  (k_with "call builtin:len" => ((k_here; (with_reducible show wpAny _ _ (call (Value.builtin "len") [Value.str (T _) _]) _ _ _); (refine lenT (by simp [bits_length]) ?_))))
  (k_with "UnrEndW" => ((refine unrEnd1 (by assumption) (by assumption) (ne_lt (allLt_mem (by assumption))) ⟨trivial, ?_⟩)))
  (k_with "subscriptTail" => ((k_here; (with_reducible show wpAny _ _ (subscriptTail _ _ (Value.str (T _) _) (Value.int _ _)) _ _ _); (refine itemT (by first | decide | omega) (by first | (simp [bits_length]; done) | (simp [bits_length]; omega)) (by simp [bits_length]) ?_))))
  (k_with "call builtin:str.startswith" => ((k_here; (with_reducible show wpAny _ _ (call (Value.builtin "str.startswith") [Value.str (T (bits _ _)) _, Value.str _ _]) _ _ _); k_dflt (refine swA _ (Fct.get (by assumption)) ?_))))
  (k_with "call builtin:str.index" => ((k_here; (with_reducible show wpAny _ _ (call (Value.builtin "str.index") [Value.str _ _, Value.str (Txt.item _ _) _]) _ _ _); k_dflt (refine index_bit _ (Fct.get (by assumption)) ?_))))
  (k_with "UnrEndW" => ((first | refine unrEnd1 (by assumption) (by assumption) (ne_lt (by assumption)) ⟨trivial, ?_⟩ | refine unrEnd1 (by assumption) (by assumption) (ne_lt (allLt_mem (by assumption))) ⟨trivial, ?_⟩)))
  (k_with "mine kxi_size" => ((first | (show (T _).length ≤ _; rw [T_length]; (try rw [PySem.sizeLine_eq]); first | (rw [bits_length]; decide) | (rw [Z_length, List.length_take]; omega)) | (with_unfolding_all exact Nat.le_of_ble_eq_true rfl))))
  (k_with "subscriptTail" => ((k_here; (with_reducible show wpAny _ _ (subscriptTail _ (Expr.Slice (some _) none none _) (Value.str (T (Z _)) _) (Value.ref _)) _ _ _); (with_reducible rename Fr _ _ _ _ => F'); (with_reducible rename News _ _ _ _ => N'); (refine slice_Z (s := ⟨_, _, _, _, _⟩) F' N' rfl (Fct.get (by assumption)) (by (rw [Z_length, List.length_take, List.length_drop]; omega)) (by (rw [Z_length, List.length_take, List.length_drop]; omega)) ?_); intro _ _ _ _ _)))
  (k_with "mine kct_one" => (exact Fct.get (by assumption)))
  (k_with "call ref" => ((k_here; (with_reducible show wpAny _ _ (call (Value.ref 250) [Value.str (T (bits _ _)) _]) _ _ _); k_dflt ((refine Pure.useR (by k_asm) (by k_asm) (by k_asm) (by k_asm) (by k_asm) (by first | exact rfl | assumption) (by ktr_room) (by ktr_units) (number_bits _ _ _ _ (Fct.get (by assumption)) (by decide)) ?_; k_whole; intro v' h' tk' R' F' N'; first | (obtain ⟨t', e'⟩ := R'; subst e') | (obtain ⟨z', hz', t', e'⟩ := R'; subst e') | subst R'; (try dsimp only); (try k_fold))))))
  (k_with "call ref" => ((k_here; (with_reducible show wpAny _ _ (call (Value.ref 250) [Value.str (T (_ :: _)) _]) _ _ _); k_dflt ((refine Pure.useR (by k_asm) (by k_asm) (by k_asm) (by k_asm) (by k_asm) (by first | exact rfl | assumption) (by ktr_room) (by ktr_units) (number_turned _ _ _ _ (Fct.get (by assumption)) (by decide)) ?_; k_whole; intro v' h' tk' R' F' N'; first | (obtain ⟨t', e'⟩ := R'; subst e') | (obtain ⟨z', hz', t', e'⟩ := R'; subst e') | subst R'; (try dsimp only); (try k_fold))))))
  (k_with "call ref" => ((k_here; (with_reducible show wpAny _ _ (call (Value.ref 262) [Value.int _ _, _]) _ _ _); k_dflt ((refine Pure.useR (by k_asm) (by k_asm) (by k_asm) (by k_asm) (by k_asm) (by first | exact rfl | assumption) (by ktr_room) (by ktr_units) (octets_in _ _ _ ⟨by omega, by omega⟩) ?_; k_whole; intro v' h' tk' R' F' N'; first | (obtain ⟨t', e'⟩ := R'; subst e') | (obtain ⟨z', hz', t', e'⟩ := R'; subst e') | subst R'; (try dsimp only); (try k_fold))))))
  (k_with "eval Call" => ((k_here; (with_reducible show wpAny _ _ (eval (Expr.Call (Expr.Name ("_law_number" : Str) _) _ _ _) _) _ _ _); k_dflt (refine Call_Name (by rfl) ?_))))
  (k_with "eval Call" => ((k_here; (with_reducible show wpAny _ _ (eval (Expr.Call (Expr.Name ("_law_octets" : Str) _) _ _ _) _) _ _ _); k_dflt (refine Call_Name (by rfl) ?_))))
  trivial
end
section


theorem w29 : True := by
  k_with_none
  (k_with "call ref" => ((k_here; refine wpAny_call ?_; k_dflt (walk_at "mine enterF"))))
  (k_with "call type:bytes" => ((k_here; (with_reducible show wpAny _ _ (call (Value.type "bytes") [Value.ref _]) _ _ _); k_dflt (refine' Mine.call_bytes_tuple (by k_asm) (by k_asm) (by rfl) (by exact News.isTup (by k_asm) (by k_mem)) (by kba_listInts) ?_ (by kba_size) ?_; rotate_left); intro _ _ _ F' N' kbaIn)))
  (k_with "exec Raise some none" => ((k_here; (with_reducible show wpAny _ _ (exec (Stmt.Raise (some (Expr.Call (Expr.Name ("BadSig" : Str) _) _ _ _)) none _) _) _ _ _); k_dflt (refine Raise_own (C := 63) rfl ?_))))
  (k_with "exec Raise some none" => ((k_here; (with_reducible show wpAny _ _ (exec (Stmt.Raise (some (Expr.Call (Expr.Name ("BadImage" : Str) _) _ _ _)) none _) _) _ _ _); k_dflt (refine Raise_own (C := 51) rfl ?_))))
  (k_with "call ref" => ((k_here; (with_reducible show wpAny _ _ (call (Value.ref _) [_, _]) (RaisableX _ _) _ _); k_dflt (refine' raise_call _ _ _ _ (by first | exact excC_63 _ | exact excC_51 _) (by k_asm) (by k_asm) (by k_asm) (by k_asm) (by k_asm) (by exact rfl) (by ktr_room) (by ktr_units) ?_; k_whole; intro h' tk' e' t' d' F' N' hne' hnt'; (try dsimp only)))))
  (k_with "leaving ref" => ((k_here; first
  | (refine' leave_mine (by assumption) (by assumption) (by assumption) (by assumption) (by assumption) ?_; k_whole; intro h' R' U'; (try dsimp only))
  | (refine' leave_onS (by assumption) (by assumption) (by assumption) (by assumption) ?_; k_whole; intro h' R' RK' U'; (try dsimp only)))))
  (k_with "binaryOp Pow int int" => ((k_here; dsimp only; walk_at "binaryOp Pow int int")))
  (k_with "mine k_all" => (first | assumption | exact ne_lt (by assumption) | exact ne_succ (by assumption) | exact ne_lt (allLt_mem (And.right (by assumption))) | exact ne_lt (allLt_mem (And.right (And.right (by assumption))))))
  (k_with "mine kct_one" => (first | with_reducible exact lead_0 | with_reducible exact lead_10 | with_reducible exact lead_110 | with_reducible exact bits_from1 _ _ (by decide) | with_reducible exact bits_item0 _ _ (by decide) | with_reducible rfl))
  (k_with "binaryOp Add str str" => ((k_here; (refine addT (by kct_one) (by kct_one) (by simp [bits_length]) ?_); intro _ _)))
  (k_with "call builtin:len" => ((k_here; (with_reducible show wpAny _ _ (call (Value.builtin "len") [Value.str (T _) _]) _ _ _); (refine lenT (by simp [bits_length]) ?_))))
  (k_with "UnrEndW" => ((refine unrEnd1 (by assumption) (by assumption) (ne_lt (allLt_mem (by assumption))) ⟨trivial, ?_⟩)))
  (k_with "subscriptTail" => ((k_here; (with_reducible show wpAny _ _ (subscriptTail _ _ (Value.str (T _) _) (Value.int _ _)) _ _ _); (refine itemT (by first | decide | omega) (by first | (simp [bits_length]; done) | (simp [bits_length]; omega)) (by simp [bits_length]) ?_))))
  (k_with "call builtin:str.startswith" => ((k_here; (with_reducible show wpAny _ _ (call (Value.builtin "str.startswith") [Value.str (T (bits _ _)) _, Value.str _ _]) _ _ _); k_dflt (refine swA _ (Fct.get (by assumption)) ?_))))
  (k_with "call builtin:str.index" => ((k_here; (with_reducible show wpAny _ _ (call (Value.builtin "str.index") [Value.str _ _, Value.str (Txt.item _ _) _]) _ _ _); k_dflt (refine index_bit _ (Fct.get (by assumption)) ?_))))
  (k_with "UnrEndW" => ((first | refine unrEnd1 (by assumption) (by assumption) (ne_lt (by assumption)) ⟨trivial, ?_⟩ | refine unrEnd1 (by assumption) (by assumption) (ne_lt (allLt_mem (by assumption))) ⟨trivial, ?_⟩)))
  (k_with "mine kxi_size" => ((first | (show (T _).length ≤ _; rw [T_length]; (try rw [PySem.sizeLine_eq]); first | (rw [bits_length]; decide) | (rw [Z_length, List.length_take]; omega)) | (with_unfolding_all exact Nat.le_of_ble_eq_true rfl))))
  (k_with "subscriptTail" => ((k_here; (with_reducible show wpAny _ _ (subscriptTail _ (Expr.Slice (some _) none none _) (Value.str (T (Z _)) _) (Value.ref _)) _ _ _); (with_reducible rename Fr _ _ _ _ => F'); (with_reducible rename News _ _ _ _ => N'); (refine slice_Z (s := ⟨_, _, _, _, _⟩) F' N' rfl (Fct.get (by assumption)) (by (rw [Z_length, List.length_take, List.length_drop]; omega)) (by (rw [Z_length, List.length_take, List.length_drop]; omega)) ?_); intro _ _ _ _ _)))
  (k_with "mine kct_one" => (exact Fct.get (by assumption)))
  (k_with "call ref" => ((k_here; (with_reducible show wpAny _ _ (call (Value.ref 250) [Value.str (T (bits _ _)) _]) _ _ _); k_dflt ((refine Pure.useR (by k_asm) (by k_asm) (by k_asm) (by k_asm) (by k_asm) (by first | exact rfl | assumption) (by ktr_room) (by ktr_units) (number_bits _ _ _ _ (Fct.get (by assumption)) (by decide)) ?_; k_whole; intro v' h' tk' R' F' N'; first | (obtain ⟨t', e'⟩ := R'; subst e') | (obtain ⟨z', hz', t', e'⟩ := R'; subst e') | subst R'; (try dsimp only); (try k_fold))))))
  (k_with "call ref" => ((k_here; (with_reducible show wpAny _ _ (call (Value.ref 250) [Value.str (T (_ :: _)) _]) _ _ _); k_dflt ((refine Pure.useR (by k_asm) (by k_asm) (by k_asm) (by k_asm) (by k_asm) (by first | exact rfl | assumption) (by ktr_room) (by ktr_units) (number_turned _ _ _ _ (Fct.get (by assumption)) (by decide)) ?_; k_whole; intro v' h' tk' R' F' N'; first | (obtain ⟨t', e'⟩ := R'; subst e') | (obtain ⟨z', hz', t', e'⟩ := R'; subst e') | subst R'; (try dsimp only); (try k_fold))))))
  (k_with "call ref" => ((k_here; (with_reducible show wpAny _ _ (call (Value.ref 262) [Value.int _ _, _]) _ _ _); k_dflt ((refine Pure.useR (by k_asm) (by k_asm) (by k_asm) (by k_asm) (by k_asm) (by first | exact rfl | assumption) (by ktr_room) (by ktr_units) (octets_in _ _ _ ⟨by omega, by omega⟩) ?_; k_whole; intro v' h' tk' R' F' N'; first | (obtain ⟨t', e'⟩ := R'; subst e') | (obtain ⟨z', hz', t', e'⟩ := R'; subst e') | subst R'; (try dsimp only); (try k_fold))))))
  (k_with "eval Call" => ((k_here; (with_reducible show wpAny _ _ (eval (Expr.Call (Expr.Name ("_law_number" : Str) _) _ _ _) _) _ _ _); k_dflt (refine Call_Name (by rfl) ?_))))
  (k_with "eval Call" => ((k_here; (with_reducible show wpAny _ _ (eval (Expr.Call (Expr.Name ("_law_octets" : Str) _) _ _ _) _) _ _ _); k_dflt (refine Call_Name (by rfl) ?_))))
  trivial
section
theorem w30 : True := by
  (k_with "call ref" => ((k_here; (with_reducible show wpAny _ _ (call (Value.ref 243) [Value.int _ _, Value.int _ _]) _ _ _); k_dflt ((refine Pure.useR (by k_asm) (by k_asm) (by k_asm) (by k_asm) (by k_asm) (by first | exact rfl | assumption) (by ktr_room) (by ktr_units) (law_digits_ok _ _ _ _ _ (by omega) (by omega)) ?_; k_whole; intro v' h' tk' R' F' N'; first | (obtain ⟨t', e'⟩ := R'; subst e') | (obtain ⟨z', hz', t', e'⟩ := R'; subst e') | subst R'; (try dsimp only); (try k_fold))))))
  (k_with "eval Call" => ((k_here; (with_reducible show wpAny _ _ (eval (Expr.Call (Expr.Name ("_law_digits" : Str) _) _ _ _) _) _ _ _); k_dflt (refine Call_Name (by rfl) ?_))))
  (k_with "eval ListComp" => ((k_here; k_dflt (refine ListComp_M (by k_asm) (by with_unfolding_all rfl) (by decide) (by rfl) (by decide) (by rfl) ?_))))
  trivial
theorem look_4 (w : World) (b : Array UInt8) (ks : List Int) (t ta tw : Tok) (a way : Int) (hw : way = 0 ∨ way = 1 ∨ way = 2) (hb : KBw.bInts b = ks) (h0 : 0 ≤ a) (hsz : ks.length ≤ 100000) (h1 : 192 ≤ ks.getD a.toNat 0) (h2 : ks.getD a.toNat 0 < 224) (h3 : a + 3 < ks.length) (news : List (Addr × Obj)) :
    Call w 60 267 [.bytes b t, .int a ta, .int way tw] news
    (fun v nw => ∃ T' ts tn tp y n p, Looked ks a way 4 y n p ∧ nw = (T', { cls := .type "tuple", data := .seq [.str y ts, .int n tn, .int p tp].toArray }) :: news ∧ v = .ref T') (fun C nw => False) := by
  have hin : ∀ k ∈ ks, 0 ≤ k ∧ k < 256 := hb ▸ bInts_in b
  have hz := Fct.mk (z_4 hin h0 (by omega))
  have hN : HasNum ks a ks.length 4 := .inr (.inr ⟨rfl, h1, h2, h3⟩)
  have hn := num_in hin hN
  have hn2 : Fct (0 ≤ num ks a 4 ∧ num ks a 4 < 2 ^ (28 + 1)) := Fct.mk ⟨hn.1, num_width hin hN⟩
  have f1 : Fct (Txt.item (T (bits (num ks a 4) 29)) (29 - 1) = T [(num ks a 4 % 2).toNat]) := Fct.mk (bits_last (num ks a 4) 28)
  have f2 : Fct (Txt.slice (T (bits (num ks a 4) 29)) none (some (29 - 1)) = T (bits (num ks a 4 / 2) 28)) := Fct.mk (bits_front (num ks a 4) 28)
  have f3 := Fct.mk (turned_first (num ks a 4 % 2).toNat (bits (num ks a 4 / 2) 28))
  unfold Call
  k_fill
  intro mean mg mb dp un gd cn cs ad ccd outer A₀ base h₀ L m s Q E B F X N TT hk hd hu hret hexc
  refine wpAny_call ?_
  k_dflt cell_enter
  have ne : ¬ (a = (ks.length : Int)) := by omega
  have q0 := Fct.mk (sw0 (n := ks.getD a.toNat 0) ⟨by omega, by omega⟩ false (iff_of_false (by decide) (by omega)))
  have q1 := Fct.mk (sw10 (n := ks.getD a.toNat 0) ⟨by omega, by omega⟩ false (iff_of_false (by decide) (by omega)))
  have q2 := Fct.mk (sw110 (n := ks.getD a.toNat 0) ⟨by omega, by omega⟩ true (iff_of_true rfl (by omega)))
  k_steps
  · exact absurd (by assumption) ne
  refine look_src hb 4 h0 (by omega) hsz (congrArg (a + ·) (by decide +kernel)) rfl (by assumption) (by assumption) ?_
  intro p hp
  rintro s₂ ⟨h₂, rfl⟩
  refine rest_map StrsAre (fun a y => ∃ t, y = .str a t) .nil (fun vs xs a y h1 h2 => by obtain ⟨t, rfl⟩ := h2; exact kct_snoc h1) (fun i => T (bits ((KBw.bInts p).getD i 0) 8)) ?_ ?_
  · intro i v I oI C oC D m₂ ys h tk E' hi hP hC hx F' N' off ne
    obtain ⟨c, t1, hc, rfl⟩ := hP
    have hc2 := KBw.ints_get hc
    have hc3 := c.toNat_lt
    k_steps
    refine LCg.CompEnd.intro (by assumption) (by assumption) _ (fun p hp => hp) off trivial ⟨rfl, ?_⟩
    rw [List.getD_eq_getElem?_getD, hc2]
    exact ⟨_, rfl⟩
  · intro ys hys
    rw [range_ints (fun n => T (bits n 8)), hp] at hys
    k_steps
    refine join_list (News.isList (by assumption) (by k_mem)) hys ?_ ?_
    · rw [sum_Z, List.length_map]
      show 8 * _ + _ * 0 ≤ 16777216
      rw [List.length_take]; omega
    intro t9 k9
    rw [join_Z]
    rcases hw with rfl | rfl | rfl
    · k_steps
      exact hret _ _ _ _ ⟨_, _, _, _, _, _, _, looked_0 (congrArg (a + ·) (show (29 + ((3 : Nat) : Int) : Int).fdiv 8 = 4 by decide +kernel)), rfl, rfl⟩ (by k_asm) (sub_top (l1 := [_, _]) (by assumption))
    · k_steps
      · exact hret _ _ _ _ ⟨_, _, _, _, _, _, _, looked_s ((octets_same hin hN h0 (Int.le_refl _) (pick_ints hb (e := a + (29 + ((3 : Nat) : Int) : Int).fdiv 8) 4 rfl h0 (by omega))).mp (by assumption)), rfl, rfl⟩ (by k_asm) (sub_top (l1 := [_, _]) (by assumption))
      · exact hret _ _ _ _ ⟨_, _, _, _, _, _, _, looked_1 (octets_no hin hN h0 (Int.le_refl _) (pick_ints hb (e := a + (29 + ((3 : Nat) : Int) : Int).fdiv 8) 4 rfl h0 (by omega)) (by assumption)) (congrArg (a + ·) (show (29 + ((3 : Nat) : Int) : Int).fdiv 8 = 4 by decide +kernel)), rfl, rfl⟩ (by k_asm) (sub_top (l1 := [_, _]) (by assumption))
    · k_steps
      exact hret _ _ _ _ ⟨_, _, _, _, _, _, _, looked_2 (look_turn _ _ 28) (congrArg (a + ·) (show (29 + ((3 : Nat) : Int) : Int).fdiv 8 = 4 by decide +kernel)), rfl, rfl⟩ (by k_asm) (sub_top (l1 := [_, _]) (by assumption))
end

theorem w31 : True := by
  k_with_none
  (k_with "call ref" => ((k_here; refine wpAny_call ?_; k_dflt (walk_at "mine enterF"))))
  (k_with "call type:bytes" => ((k_here; (with_reducible show wpAny _ _ (call (Value.type "bytes") [Value.ref _]) _ _ _); k_dflt (refine' Mine.call_bytes_tuple (by k_asm) (by k_asm) (by rfl) (by exact News.isTup (by k_asm) (by k_mem)) (by kba_listInts) ?_ (by kba_size) ?_; rotate_left); intro _ _ _ F' N' kbaIn)))
  (k_with "exec Raise some none" => ((k_here; (with_reducible show wpAny _ _ (exec (Stmt.Raise (some (Expr.Call (Expr.Name ("BadSig" : Str) _) _ _ _)) none _) _) _ _ _); k_dflt (refine Raise_own (C := 63) rfl ?_))))
  (k_with "exec Raise some none" => ((k_here; (with_reducible show wpAny _ _ (exec (Stmt.Raise (some (Expr.Call (Expr.Name ("BadImage" : Str) _) _ _ _)) none _) _) _ _ _); k_dflt (refine Raise_own (C := 51) rfl ?_))))
  (k_with "call ref" => ((k_here; (with_reducible show wpAny _ _ (call (Value.ref _) [_, _]) (RaisableX _ _) _ _); k_dflt (refine' raise_call _ _ _ _ (by first | exact excC_63 _ | exact excC_51 _) (by k_asm) (by k_asm) (by k_asm) (by k_asm) (by k_asm) (by exact rfl) (by ktr_room) (by ktr_units) ?_; k_whole; intro h' tk' e' t' d' F' N' hne' hnt'; (try dsimp only)))))
  (k_with "leaving ref" => ((k_here; first
  | (refine' leave_mine (by assumption) (by assumption) (by assumption) (by assumption) (by assumption) ?_; k_whole; intro h' R' U'; (try dsimp only))
  | (refine' leave_onS (by assumption) (by assumption) (by assumption) (by assumption) ?_; k_whole; intro h' R' RK' U'; (try dsimp only)))))
  (k_with "binaryOp Pow int int" => ((k_here; dsimp only; walk_at "binaryOp Pow int int")))
  (k_with "mine k_all" => (first | assumption | exact ne_lt (by assumption) | exact ne_succ (by assumption) | exact ne_lt (allLt_mem (And.right (by assumption))) | exact ne_lt (allLt_mem (And.right (And.right (by assumption))))))
  (k_with "mine kct_one" => (first | with_reducible exact lead_0 | with_reducible exact lead_10 | with_reducible exact lead_110 | with_reducible exact bits_from1 _ _ (by decide) | with_reducible exact bits_item0 _ _ (by decide) | with_reducible rfl))
  (k_with "binaryOp Add str str" => ((k_here; (refine addT (by kct_one) (by kct_one) (by simp [bits_length]) ?_); intro _ _)))
  (k_with "call builtin:len" => ((k_here; (with_reducible show wpAny _ _ (call (Value.builtin "len") [Value.str (T _) _]) _ _ _); (refine lenT (by simp [bits_length]) ?_))))
  (k_with "UnrEndW" => ((refine unrEnd1 (by assumption) (by assumption) (ne_lt (allLt_mem (by assumption))) ⟨trivial, ?_⟩)))
  (k_with "subscriptTail" => ((k_here; (with_reducible show wpAny _ _ (subscriptTail _ _ (Value.str (T _) _) (Value.int _ _)) _ _ _); (refine itemT (by first | decide | omega) (by first | (simp [bits_length]; done) | (simp [bits_length]; omega)) (by simp [bits_length]) ?_))))
  (k_with "call builtin:str.startswith" => ((k_here; (with_reducible show wpAny _ _ (call (Value.builtin "str.startswith") [Value.str (T (bits _ _)) _, Value.str _ _]) _ _ _); k_dflt (refine swA _ (Fct.get (by assumption)) ?_))))
  (k_with "call builtin:str.index" => ((k_here; (with_reducible show wpAny _ _ (call (Value.builtin "str.index") [Value.str _ _, Value.str (Txt.item _ _) _]) _ _ _); k_dflt (refine index_bit _ (Fct.get (by assumption)) ?_))))
  (k_with "UnrEndW" => ((first | refine unrEnd1 (by assumption) (by assumption) (ne_lt (by assumption)) ⟨trivial, ?_⟩ | refine unrEnd1 (by assumption) (by assumption) (ne_lt (allLt_mem (by assumption))) ⟨trivial, ?_⟩)))
  (k_with "mine kxi_size" => ((first | (show (T _).length ≤ _; rw [T_length]; (try rw [PySem.sizeLine_eq]); first | (rw [bits_length]; decide) | (rw [Z_length, List.length_take]; omega)) | (with_unfolding_all exact Nat.le_of_ble_eq_true rfl))))
  (k_with "subscriptTail" => ((k_here; (with_reducible show wpAny _ _ (subscriptTail _ (Expr.Slice (some _) none none _) (Value.str (T (Z _)) _) (Value.ref _)) _ _ _); (with_reducible rename Fr _ _ _ _ => F'); (with_reducible rename News _ _ _ _ => N'); (refine slice_Z (s := ⟨_, _, _, _, _⟩) F' N' rfl (Fct.get (by assumption)) (by (rw [Z_length, List.length_take, List.length_drop]; omega)) (by (rw [Z_length, List.length_take, List.length_drop]; omega)) ?_); intro _ _ _ _ _)))
  (k_with "mine kct_one" => (exact Fct.get (by assumption)))
  (k_with "call ref" => ((k_here; (with_reducible show wpAny _ _ (call (Value.ref 250) [Value.str (T (bits _ _)) _]) _ _ _); k_dflt ((refine Pure.useR (by k_asm) (by k_asm) (by k_asm) (by k_asm) (by k_asm) (by first | exact rfl | assumption) (by ktr_room) (by ktr_units) (number_bits _ _ _ _ (Fct.get (by assumption)) (by decide)) ?_; k_whole; intro v' h' tk' R' F' N'; first | (obtain ⟨t', e'⟩ := R'; subst e') | (obtain ⟨z', hz', t', e'⟩ := R'; subst e') | subst R'; (try dsimp only); (try k_fold))))))
  (k_with "call ref" => ((k_here; (with_reducible show wpAny _ _ (call (Value.ref 250) [Value.str (T (_ :: _)) _]) _ _ _); k_dflt ((refine Pure.useR (by k_asm) (by k_asm) (by k_asm) (by k_asm) (by k_asm) (by first | exact rfl | assumption) (by ktr_room) (by ktr_units) (number_turned _ _ _ _ (Fct.get (by assumption)) (by decide)) ?_; k_whole; intro v' h' tk' R' F' N'; first | (obtain ⟨t', e'⟩ := R'; subst e') | (obtain ⟨z', hz', t', e'⟩ := R'; subst e') | subst R'; (try dsimp only); (try k_fold))))))
  (k_with "call ref" => ((k_here; (with_reducible show wpAny _ _ (call (Value.ref 262) [Value.int _ _, _]) _ _ _); k_dflt ((refine Pure.useR (by k_asm) (by k_asm) (by k_asm) (by k_asm) (by k_asm) (by first | exact rfl | assumption) (by ktr_room) (by ktr_units) (octets_in _ _ _ ⟨by omega, by omega⟩) ?_; k_whole; intro v' h' tk' R' F' N'; first | (obtain ⟨t', e'⟩ := R'; subst e') | (obtain ⟨z', hz', t', e'⟩ := R'; subst e') | subst R'; (try dsimp only); (try k_fold))))))
  (k_with "eval Call" => ((k_here; (with_reducible show wpAny _ _ (eval (Expr.Call (Expr.Name ("_law_number" : Str) _) _ _ _) _) _ _ _); k_dflt (refine Call_Name (by rfl) ?_))))
  (k_with "eval Call" => ((k_here; (with_reducible show wpAny _ _ (eval (Expr.Call (Expr.Name ("_law_octets" : Str) _) _ _ _) _) _ _ _); k_dflt (refine Call_Name (by rfl) ?_))))
  trivial
end
section


theorem w32 : True := by
  k_with_none
  (k_with "call ref" => ((k_here; refine wpAny_call ?_; k_dflt (walk_at "mine enterF"))))
  (k_with "call type:bytes" => ((k_here; (with_reducible show wpAny _ _ (call (Value.type "bytes") [Value.ref _]) _ _ _); k_dflt (refine' Mine.call_bytes_tuple (by k_asm) (by k_asm) (by rfl) (by exact News.isTup (by k_asm) (by k_mem)) (by kba_listInts) ?_ (by kba_size) ?_; rotate_left); intro _ _ _ F' N' kbaIn)))
  (k_with "exec Raise some none" => ((k_here; (with_reducible show wpAny _ _ (exec (Stmt.Raise (some (Expr.Call (Expr.Name ("BadSig" : Str) _) _ _ _)) none _) _) _ _ _); k_dflt (refine Raise_own (C := 63) rfl ?_))))
  (k_with "exec Raise some none" => ((k_here; (with_reducible show wpAny _ _ (exec (Stmt.Raise (some (Expr.Call (Expr.Name ("BadImage" : Str) _) _ _ _)) none _) _) _ _ _); k_dflt (refine Raise_own (C := 51) rfl ?_))))
  (k_with "call ref" => ((k_here; (with_reducible show wpAny _ _ (call (Value.ref _) [_, _]) (RaisableX _ _) _ _); k_dflt (refine' raise_call _ _ _ _ (by first | exact excC_63 _ | exact excC_51 _) (by k_asm) (by k_asm) (by k_asm) (by k_asm) (by k_asm) (by exact rfl) (by ktr_room) (by ktr_units) ?_; k_whole; intro h' tk' e' t' d' F' N' hne' hnt'; (try dsimp only)))))
  (k_with "leaving ref" => ((k_here; first
  | (refine' leave_mine (by assumption) (by assumption) (by assumption) (by assumption) (by assumption) ?_; k_whole; intro h' R' U'; (try dsimp only))
  | (refine' leave_onS (by assumption) (by assumption) (by assumption) (by assumption) ?_; k_whole; intro h' R' RK' U'; (try dsimp only)))))
  (k_with "binaryOp Pow int int" => ((k_here; dsimp only; walk_at "binaryOp Pow int int")))
  (k_with "mine k_all" => (first | assumption | exact ne_lt (by assumption) | exact ne_succ (by assumption) | exact ne_lt (allLt_mem (And.right (by assumption))) | exact ne_lt (allLt_mem (And.right (And.right (by assumption))))))
  (k_with "mine kct_one" => (first | with_reducible exact lead_0 | with_reducible exact lead_10 | with_reducible exact lead_110 | with_reducible exact bits_from1 _ _ (by decide) | with_reducible exact bits_item0 _ _ (by decide) | with_reducible rfl))
  (k_with "binaryOp Add str str" => ((k_here; (refine addT (by kct_one) (by kct_one) (by simp [bits_length]) ?_); intro _ _)))
  (k_with "call builtin:len" => ((k_here; (with_reducible show wpAny _ _ (call (Value.builtin "len") [Value.str (T _) _]) _ _ _); (refine lenT (by simp [bits_length]) ?_))))
  (k_with "UnrEndW" => ((refine unrEnd1 (by assumption) (by assumption) (ne_lt (allLt_mem (by assumption))) ⟨trivial, ?_⟩)))
  (k_with "subscriptTail" => ((k_here; (with_reducible show wpAny _ _ (subscriptTail _ _ (Value.str (T _) _) (Value.int _ _)) _ _ _); (refine itemT (by first | decide | omega) (by first | (simp [bits_length]; done) | (simp [bits_length]; omega)) (by simp [bits_length]) ?_))))
  (k_with "call builtin:str.startswith" => ((k_here; (with_reducible show wpAny _ _ (call (Value.builtin "str.startswith") [Value.str (T (bits _ _)) _, Value.str _ _]) _ _ _); k_dflt (refine swA _ (Fct.get (by assumption)) ?_))))
  (k_with "call builtin:str.index" => ((k_here; (with_reducible show wpAny _ _ (call (Value.builtin "str.index") [Value.str _ _, Value.str (Txt.item _ _) _]) _ _ _); k_dflt (refine index_bit _ (Fct.get (by assumption)) ?_))))
  (k_with "UnrEndW" => ((first | refine unrEnd1 (by assumption) (by assumption) (ne_lt (by assumption)) ⟨trivial, ?_⟩ | refine unrEnd1 (by assumption) (by assumption) (ne_lt (allLt_mem (by assumption))) ⟨trivial, ?_⟩)))
  (k_with "mine kxi_size" => ((first | (show (T _).length ≤ _; rw [T_length]; (try rw [PySem.sizeLine_eq]); first | (rw [bits_length]; decide) | (rw [Z_length, List.length_take]; omega)) | (with_unfolding_all exact Nat.le_of_ble_eq_true rfl))))
  (k_with "subscriptTail" => ((k_here; (with_reducible show wpAny _ _ (subscriptTail _ (Expr.Slice (some _) none none _) (Value.str (T (Z _)) _) (Value.ref _)) _ _ _); (with_reducible rename Fr _ _ _ _ => F'); (with_reducible rename News _ _ _ _ => N'); (refine slice_Z (s := ⟨_, _, _, _, _⟩) F' N' rfl (Fct.get (by assumption)) (by (rw [Z_length, List.length_take, List.length_drop]; omega)) (by (rw [Z_length, List.length_take, List.length_drop]; omega)) ?_); intro _ _ _ _ _)))
  (k_with "mine kct_one" => (exact Fct.get (by assumption)))
  (k_with "call ref" => ((k_here; (with_reducible show wpAny _ _ (call (Value.ref 250) [Value.str (T (bits _ _)) _]) _ _ _); k_dflt ((refine Pure.useR (by k_asm) (by k_asm) (by k_asm) (by k_asm) (by k_asm) (by first | exact rfl | assumption) (by ktr_room) (by ktr_units) (number_bits _ _ _ _ (Fct.get (by assumption)) (by decide)) ?_; k_whole; intro v' h' tk' R' F' N'; first | (obtain ⟨t', e'⟩ := R'; subst e') | (obtain ⟨z', hz', t', e'⟩ := R'; subst e') | subst R'; (try dsimp only); (try k_fold))))))
  (k_with "call ref" => ((k_here; (with_reducible show wpAny _ _ (call (Value.ref 250) [Value.str (T (_ :: _)) _]) _ _ _); k_dflt ((refine Pure.useR (by k_asm) (by k_asm) (by k_asm) (by k_asm) (by k_asm) (by first | exact rfl | assumption) (by ktr_room) (by ktr_units) (number_turned _ _ _ _ (Fct.get (by assumption)) (by decide)) ?_; k_whole; intro v' h' tk' R' F' N'; first | (obtain ⟨t', e'⟩ := R'; subst e') | (obtain ⟨z', hz', t', e'⟩ := R'; subst e') | subst R'; (try dsimp only); (try k_fold))))))
  (k_with "call ref" => ((k_here; (with_reducible show wpAny _ _ (call (Value.ref 262) [Value.int _ _, _]) _ _ _); k_dflt ((refine Pure.useR (by k_asm) (by k_asm) (by k_asm) (by k_asm) (by k_asm) (by first | exact rfl | assumption) (by ktr_room) (by ktr_units) (octets_in _ _ _ ⟨by omega, by omega⟩) ?_; k_whole; intro v' h' tk' R' F' N'; first | (obtain ⟨t', e'⟩ := R'; subst e') | (obtain ⟨z', hz', t', e'⟩ := R'; subst e') | subst R'; (try dsimp only); (try k_fold))))))
  (k_with "eval Call" => ((k_here; (with_reducible show wpAny _ _ (eval (Expr.Call (Expr.Name ("_law_number" : Str) _) _ _ _) _) _ _ _); k_dflt (refine Call_Name (by rfl) ?_))))
  (k_with "eval Call" => ((k_here; (with_reducible show wpAny _ _ (eval (Expr.Call (Expr.Name ("_law_octets" : Str) _) _ _ _) _) _ _ _); k_dflt (refine Call_Name (by rfl) ?_))))
  trivial
section
theorem w33 : True := by
  (k_with "call ref" => ((k_here; (with_reducible show wpAny _ _ (call (Value.ref 243) [Value.int _ _, Value.int _ _]) _ _ _); k_dflt ((refine Pure.useR (by k_asm) (by k_asm) (by k_asm) (by k_asm) (by k_asm) (by first | exact rfl | assumption) (by ktr_room) (by ktr_units) (law_digits_ok _ _ _ _ _ (by omega) (by omega)) ?_; k_whole; intro v' h' tk' R' F' N'; first | (obtain ⟨t', e'⟩ := R'; subst e') | (obtain ⟨z', hz', t', e'⟩ := R'; subst e') | subst R'; (try dsimp only); (try k_fold))))))
  (k_with "eval Call" => ((k_here; (with_reducible show wpAny _ _ (eval (Expr.Call (Expr.Name ("_law_digits" : Str) _) _ _ _) _) _ _ _); k_dflt (refine Call_Name (by rfl) ?_))))
  (k_with "eval ListComp" => ((k_here; k_dflt (refine ListComp_M (by k_asm) (by with_unfolding_all rfl) (by decide) (by rfl) (by decide) (by rfl) ?_))))
  trivial
theorem look_e0 (w : World) (b : Array UInt8) (ks : List Int) (t ta tw : Tok) (a way : Int) (hb : KBw.bInts b = ks) (h0 : 0 ≤ a) (hsz : ks.length ≤ 100000) (h1 : a = ks.length) (news : List (Addr × Obj)) :
    Call w 60 267 [.bytes b t, .int a ta, .int way tw] news
    (fun v nw => ∃ T' ts tn tp, nw = (T', { cls := .type "tuple", data := .seq [.str (Str.ofString "end") ts, .int 0 tn, .int a tp].toArray }) :: news ∧ v = .ref T') (fun C nw => False) := by
  have hin : ∀ k ∈ ks, 0 ≤ k ∧ k < 256 := hb ▸ bInts_in b
  have hi := KBw.getD_in (j := a.toNat) hin
  unfold Call
  k_fill
  intro mean mg mb dp un gd cn cs ad ccd outer A₀ base h₀ L m s Q E B F X N TT hk hd hu hret hexc
  refine wpAny_call ?_
  k_dflt cell_enter
  k_steps
  all_goals first
    | exact hret _ _ _ _ ⟨_, _, _, _, rfl, rfl⟩ (by k_asm) (by first | k_asm | exact sub_top (l1 := [_]) (by assumption))
theorem look_sig (w : World) (b : Array UInt8) (ks : List Int) (t ta tw : Tok) (a way : Int) (hb : KBw.bInts b = ks) (h0 : 0 ≤ a) (hsz : ks.length ≤ 100000) (h1 : a < ks.length ∧ 224 ≤ ks.getD a.toNat 0) (news : List (Addr × Obj)) :
    Call w 60 267 [.bytes b t, .int a ta, .int way tw] news
    (fun v nw => ∃ T' ts tn tp, nw = (T', { cls := .type "tuple", data := .seq [.str (Str.ofString "sig") ts, .int 0 tn, .int a tp].toArray }) :: news ∧ v = .ref T') (fun C nw => False) := by
  have hin : ∀ k ∈ ks, 0 ≤ k ∧ k < 256 := hb ▸ bInts_in b
  have hi := KBw.getD_in (j := a.toNat) hin
  unfold Call
  k_fill
  intro mean mg mb dp un gd cn cs ad ccd outer A₀ base h₀ L m s Q E B F X N TT hk hd hu hret hexc
  refine wpAny_call ?_
  k_dflt cell_enter
  have ne : ¬ (a = (ks.length : Int)) := by omega
  have q0 := Fct.mk (sw0 (n := ks.getD a.toNat 0) ⟨by omega, by omega⟩ false (iff_of_false (by decide) (by omega)))
  have q1 := Fct.mk (sw10 (n := ks.getD a.toNat 0) ⟨by omega, by omega⟩ false (iff_of_false (by decide) (by omega)))
  have q2 := Fct.mk (sw110 (n := ks.getD a.toNat 0) ⟨by omega, by omega⟩ false (iff_of_false (by decide) (by omega)))
  k_steps
  all_goals first
    | exact absurd (by assumption) ne
    | exact hret _ _ _ _ ⟨_, _, _, _, rfl, rfl⟩ (by k_asm) (by first | k_asm | exact sub_top (l1 := [_]) (by assumption))
theorem look_few2 (w : World) (b : Array UInt8) (ks : List Int) (t ta tw : Tok) (a way : Int) (hb : KBw.bInts b = ks) (h0 : 0 ≤ a) (hsz : ks.length ≤ 100000) (h1 : a + 1 = ks.length) (h2 : 128 ≤ ks.getD a.toNat 0) (h3 : ks.getD a.toNat 0 < 192) (news : List (Addr × Obj)) :
    Call w 60 267 [.bytes b t, .int a ta, .int way tw] news
    (fun v nw => ∃ T' ts tn tp, nw = (T', { cls := .type "tuple", data := .seq [.str (Str.ofString "end") ts, .int 0 tn, .int a tp].toArray }) :: news ∧ v = .ref T') (fun C nw => False) := by
  have hin : ∀ k ∈ ks, 0 ≤ k ∧ k < 256 := hb ▸ bInts_in b
  have hi := KBw.getD_in (j := a.toNat) hin
  unfold Call
  k_fill
  intro mean mg mb dp un gd cn cs ad ccd outer A₀ base h₀ L m s Q E B F X N TT hk hd hu hret hexc
  refine wpAny_call ?_
  k_dflt cell_enter
  have ne : ¬ (a = (ks.length : Int)) := by omega
  have q0 := Fct.mk (sw0 (n := ks.getD a.toNat 0) ⟨by omega, by omega⟩ false (iff_of_false (by decide) (by omega)))
  have q1 := Fct.mk (sw10 (n := ks.getD a.toNat 0) ⟨by omega, by omega⟩ true (iff_of_true rfl (by omega)))
  k_steps
  all_goals first
    | exact absurd (by assumption) ne
    | exact hret _ _ _ _ ⟨_, _, _, _, rfl, rfl⟩ (by k_asm) (by first | k_asm | exact sub_top (l1 := [_]) (by assumption))
theorem look_few4 (w : World) (b : Array UInt8) (ks : List Int) (t ta tw : Tok) (a way : Int) (hb : KBw.bInts b = ks) (h0 : 0 ≤ a) (hsz : ks.length ≤ 100000) (h1 : a < ks.length ∧ ks.length ≤ a + 3) (h2 : 192 ≤ ks.getD a.toNat 0) (h3 : ks.getD a.toNat 0 < 224) (news : List (Addr × Obj)) :
    Call w 60 267 [.bytes b t, .int a ta, .int way tw] news
    (fun v nw => ∃ T' ts tn tp, nw = (T', { cls := .type "tuple", data := .seq [.str (Str.ofString "end") ts, .int 0 tn, .int a tp].toArray }) :: news ∧ v = .ref T') (fun C nw => False) := by
  have hin : ∀ k ∈ ks, 0 ≤ k ∧ k < 256 := hb ▸ bInts_in b
  have hi := KBw.getD_in (j := a.toNat) hin
  unfold Call
  k_fill
  intro mean mg mb dp un gd cn cs ad ccd outer A₀ base h₀ L m s Q E B F X N TT hk hd hu hret hexc
  refine wpAny_call ?_
  k_dflt cell_enter
  have ne : ¬ (a = (ks.length : Int)) := by omega
  have q0 := Fct.mk (sw0 (n := ks.getD a.toNat 0) ⟨by omega, by omega⟩ false (iff_of_false (by decide) (by omega)))
  have q1 := Fct.mk (sw10 (n := ks.getD a.toNat 0) ⟨by omega, by omega⟩ false (iff_of_false (by decide) (by omega)))
  have q2 := Fct.mk (sw110 (n := ks.getD a.toNat 0) ⟨by omega, by omega⟩ true (iff_of_true rfl (by omega)))
  k_steps
  all_goals first
    | exact absurd (by assumption) ne
    | exact hret _ _ _ _ ⟨_, _, _, _, rfl, rfl⟩ (by k_asm) (by first | k_asm | exact sub_top (l1 := [_]) (by assumption))
end

theorem w34 : True := by
  k_with_none
  (k_with "call ref" => ((k_here; refine wpAny_call ?_; k_dflt (walk_at "mine enterF"))))
  (k_with "call type:bytes" => ((k_here; (with_reducible show wpAny _ _ (call (Value.type "bytes") [Value.ref _]) _ _ _); k_dflt (refine' Mine.call_bytes_tuple (by k_asm) (by k_asm) (by rfl) (by exact News.isTup (by k_asm) (by k_mem)) (by kba_listInts) ?_ (by kba_size) ?_; rotate_left); intro _ _ _ F' N' kbaIn)))
  (k_with "exec Raise some none" => ((k_here; (with_reducible show wpAny _ _ (exec (Stmt.Raise (some (Expr.Call (Expr.Name ("BadSig" : Str) _) _ _ _)) none _) _) _ _ _); k_dflt (refine Raise_own (C := 63) rfl ?_))))
  (k_with "exec Raise some none" => ((k_here; (with_reducible show wpAny _ _ (exec (Stmt.Raise (some (Expr.Call (Expr.Name ("BadImage" : Str) _) _ _ _)) none _) _) _ _ _); k_dflt (refine Raise_own (C := 51) rfl ?_))))
  (k_with "call ref" => ((k_here; (with_reducible show wpAny _ _ (call (Value.ref _) [_, _]) (RaisableX _ _) _ _); k_dflt (refine' raise_call _ _ _ _ (by first | exact excC_63 _ | exact excC_51 _) (by k_asm) (by k_asm) (by k_asm) (by k_asm) (by k_asm) (by exact rfl) (by ktr_room) (by ktr_units) ?_; k_whole; intro h' tk' e' t' d' F' N' hne' hnt'; (try dsimp only)))))
  (k_with "leaving ref" => ((k_here; first
  | (refine' leave_mine (by assumption) (by assumption) (by assumption) (by assumption) (by assumption) ?_; k_whole; intro h' R' U'; (try dsimp only))
  | (refine' leave_onS (by assumption) (by assumption) (by assumption) (by assumption) ?_; k_whole; intro h' R' RK' U'; (try dsimp only)))))
  (k_with "binaryOp Pow int int" => ((k_here; dsimp only; walk_at "binaryOp Pow int int")))
  (k_with "mine k_all" => (first | assumption | exact ne_lt (by assumption) | exact ne_succ (by assumption) | exact ne_lt (allLt_mem (And.right (by assumption))) | exact ne_lt (allLt_mem (And.right (And.right (by assumption))))))
  (k_with "mine kct_one" => (first | with_reducible exact lead_0 | with_reducible exact lead_10 | with_reducible exact lead_110 | with_reducible exact bits_from1 _ _ (by decide) | with_reducible exact bits_item0 _ _ (by decide) | with_reducible rfl))
  (k_with "binaryOp Add str str" => ((k_here; (refine addT (by kct_one) (by kct_one) (by simp [bits_length]) ?_); intro _ _)))
  (k_with "call builtin:len" => ((k_here; (with_reducible show wpAny _ _ (call (Value.builtin "len") [Value.str (T _) _]) _ _ _); (refine lenT (by simp [bits_length]) ?_))))
  (k_with "UnrEndW" => ((refine unrEnd1 (by assumption) (by assumption) (ne_lt (allLt_mem (by assumption))) ⟨trivial, ?_⟩)))
  (k_with "subscriptTail" => ((k_here; (with_reducible show wpAny _ _ (subscriptTail _ _ (Value.str (T _) _) (Value.int _ _)) _ _ _); (refine itemT (by first | decide | omega) (by first | (simp [bits_length]; done) | (simp [bits_length]; omega)) (by simp [bits_length]) ?_))))
  (k_with "call builtin:str.startswith" => ((k_here; (with_reducible show wpAny _ _ (call (Value.builtin "str.startswith") [Value.str (T (bits _ _)) _, Value.str _ _]) _ _ _); k_dflt (refine swA _ (Fct.get (by assumption)) ?_))))
  (k_with "call builtin:str.index" => ((k_here; (with_reducible show wpAny _ _ (call (Value.builtin "str.index") [Value.str _ _, Value.str (Txt.item _ _) _]) _ _ _); k_dflt (refine index_bit _ (Fct.get (by assumption)) ?_))))
  (k_with "UnrEndW" => ((first | refine unrEnd1 (by assumption) (by assumption) (ne_lt (by assumption)) ⟨trivial, ?_⟩ | refine unrEnd1 (by assumption) (by assumption) (ne_lt (allLt_mem (by assumption))) ⟨trivial, ?_⟩)))
  (k_with "mine kxi_size" => ((first | (show (T _).length ≤ _; rw [T_length]; (try rw [PySem.sizeLine_eq]); first | (rw [bits_length]; decide) | (rw [Z_length, List.length_take]; omega)) | (with_unfolding_all exact Nat.le_of_ble_eq_true rfl))))
  (k_with "subscriptTail" => ((k_here; (with_reducible show wpAny _ _ (subscriptTail _ (Expr.Slice (some _) none none _) (Value.str (T (Z _)) _) (Value.ref _)) _ _ _); (with_reducible rename Fr _ _ _ _ => F'); (with_reducible rename News _ _ _ _ => N'); (refine slice_Z (s := ⟨_, _, _, _, _⟩) F' N' rfl (Fct.get (by assumption)) (by (rw [Z_length, List.length_take, List.length_drop]; omega)) (by (rw [Z_length, List.length_take, List.length_drop]; omega)) ?_); intro _ _ _ _ _)))
  (k_with "mine kct_one" => (exact Fct.get (by assumption)))
  (k_with "call ref" => ((k_here; (with_reducible show wpAny _ _ (call (Value.ref 250) [Value.str (T (bits _ _)) _]) _ _ _); k_dflt ((refine Pure.useR (by k_asm) (by k_asm) (by k_asm) (by k_asm) (by k_asm) (by first | exact rfl | assumption) (by ktr_room) (by ktr_units) (number_bits _ _ _ _ (Fct.get (by assumption)) (by decide)) ?_; k_whole; intro v' h' tk' R' F' N'; first | (obtain ⟨t', e'⟩ := R'; subst e') | (obtain ⟨z', hz', t', e'⟩ := R'; subst e') | subst R'; (try dsimp only); (try k_fold))))))
  (k_with "call ref" => ((k_here; (with_reducible show wpAny _ _ (call (Value.ref 250) [Value.str (T (_ :: _)) _]) _ _ _); k_dflt ((refine Pure.useR (by k_asm) (by k_asm) (by k_asm) (by k_asm) (by k_asm) (by first | exact rfl | assumption) (by ktr_room) (by ktr_units) (number_turned _ _ _ _ (Fct.get (by assumption)) (by decide)) ?_; k_whole; intro v' h' tk' R' F' N'; first | (obtain ⟨t', e'⟩ := R'; subst e') | (obtain ⟨z', hz', t', e'⟩ := R'; subst e') | subst R'; (try dsimp only); (try k_fold))))))
  (k_with "call ref" => ((k_here; (with_reducible show wpAny _ _ (call (Value.ref 262) [Value.int _ _, _]) _ _ _); k_dflt ((refine Pure.useR (by k_asm) (by k_asm) (by k_asm) (by k_asm) (by k_asm) (by first | exact rfl | assumption) (by ktr_room) (by ktr_units) (octets_in _ _ _ ⟨by omega, by omega⟩) ?_; k_whole; intro v' h' tk' R' F' N'; first | (obtain ⟨t', e'⟩ := R'; subst e') | (obtain ⟨z', hz', t', e'⟩ := R'; subst e') | subst R'; (try dsimp only); (try k_fold))))))
  (k_with "eval Call" => ((k_here; (with_reducible show wpAny _ _ (eval (Expr.Call (Expr.Name ("_law_number" : Str) _) _ _ _) _) _ _ _); k_dflt (refine Call_Name (by rfl) ?_))))
  (k_with "eval Call" => ((k_here; (with_reducible show wpAny _ _ (eval (Expr.Call (Expr.Name ("_law_octets" : Str) _) _ _ _) _) _ _ _); k_dflt (refine Call_Name (by rfl) ?_))))
  trivial
end
section
section
variable {prog : Program} {w : World} {A : Around} {E : Value → Shared → Prop} {s : Shared} {env : Env} {h₀ : Heap} {x : Str} {body : List Stmt} {Q : Flow → Shared → Prop}
/-- a turn's end: the two objects of the walk stand, the rest of the ledger is news' -/
def TurnP (h₀ : Heap) (L I : Addr) (oI : Obj) (lp : Addr × Obj) (J : (Str → Option Value) → List (Addr × Obj) → Prop) (s₁ : Shared) (f : Flow) (s₂ : Shared) : Prop :=
  f = .next ∧ ∃ h' tk m' news', s₂ = { s₁ with heap := h', toks := tk } ∧ Fr h₀ L h' m' ∧ News h₀ L h' ((I, oI) :: lp :: news') ∧ (∀ p ∈ news', p.1 ≠ I) ∧ J m' news'
theorem TurnP.intro {L I : Addr} {oI : Obj} {lp : Addr × Obj} {J : (Str → Option Value) → List (Addr × Obj) → Prop} {s₁ : Shared} {h' : Heap} {tk : Nat} {m' : Str → Option Value} {news' : List (Addr × Obj)} (F : Fr h₀ L h' m') (N : News h₀ L h' ((I, oI) :: lp :: news'))
    (hn : ∀ p ∈ news', p.1 ≠ I) (hj : J m' news') : TurnP h₀ L I oI lp J s₁ .next { s₁ with heap := h', toks := tk } := ⟨rfl, h', tk, m', news', rfl, F, N, hn, hj⟩
theorem iter_own {l : Addr} {ol : Obj} {vs : List Value} {m₀ : Str → Option Value} {news : List (Addr × Obj)} (J : Nat → (Str → Option Value) → List (Addr × Obj) → Prop)
    (hh : A.handled = none) (hl : s.heap.IsList l vs.toArray) (F : Fr h₀ env.locals s.heap m₀) (N : News h₀ env.locals s.heap ((l, ol) :: news)) (hj : J 0 m₀ news)
    (turn : ∀ i v m₁ news₁ h tk I oI, vs[i]? = some v → i < vs.length → J i m₁ news₁ → (∀ p ∈ news₁, p.1 ≠ I) → l ≠ I → Fr h₀ env.locals h (fun y => if y = x then some v else m₁ y) → News h₀ env.locals h ((I, oI) :: (l, ol) :: news₁) →
      wpAny (model prog w) A (execs body env) (TurnP h₀ env.locals I oI (l, ol) (J (i + 1)) { s with heap := h, toks := tk }) E { s with heap := h, toks := tk })
    (done : ∀ m₁ news₁ h tk, J vs.length m₁ news₁ → Fr h₀ env.locals h m₁ → News h₀ env.locals h ((l, ol) :: news₁) → Q .next { s with heap := h, toks := tk }) :
    wpAny (model prog w) A (pyIter (.ref l)) (fun it s₂ => LoopAtV prog w A h₀ env x body Q E it s₂) E s := by
  have hnl := N (l, ol) (.head _)
  have hlt : l < s.heap.objs.size := Heap.lt_size hnl.1
  have hne : l ≠ s.heap.objs.size := Nat.ne_of_lt hlt
  refine wpAny_pyIter_list hl ?_
  have W := Walks.list (prog := prog) (w := w) hh s.heap.objs.size l hne vs.toArray
  have hlen : vs.toArray.size = vs.length := by simp
  rw [hlen] at W
  let J' : Nat → (Str → Option Value) → List (Addr × Obj) → Prop := fun i m₁ news₁ => ∃ r, news₁ = (l, ol) :: r ∧ J i m₁ r
  refine ⟨_, _, _, vs.length, _, _, m₀, (l, ol) :: news, J', rfl, W, ?_, ?_, ?_, ⟨⟨_, Heap.get?_push_size _ rfl, rfl, rfl⟩, hl.at fun o e => Heap.get?_push_of_some _ e⟩, F.push _, (fun p hp => ⟨Heap.get?_push_of_some _ (N p hp).1, (N p hp).2⟩), ⟨_, rfl, hj⟩, ?_, ?_⟩
  · intro hm
    rcases List.mem_cons.mp hm with e | hm
    · exact absurd F.ns.lt (e ▸ Nat.lt_irrefl _)
    · exact absurd (List.mem_singleton.mp hm) (Ne.symm hnl.2.1)
  · intro b hb
    rw [List.mem_singleton.mp hb]
    exact next_is_new F
  · intro p hp hI
    exact absurd (Heap.lt_size (N p hp).1) ((List.mem_singleton.mp hI) ▸ Nat.lt_irrefl _)
  · rintro i v m₁ news₁ s₁ own ⟨hh', tk', rfl⟩ hin hP ⟨r, rfl, hJ⟩ hoff hown hown2 hown3 hst F₁ N₁
    obtain ⟨⟨oI, hoI, _⟩, _⟩ := hst
    have mI := hown3 s.heap.objs.size (.head _) (next_is_new F) oI hoI
    have N₂ : News h₀ env.locals hh' ((s.heap.objs.size, oI) :: (l, ol) :: r) := fun p hp => N₁ p (by
      rcases List.mem_cons.mp hp with rfl | hp
      · exact List.mem_append_left _ mI
      · exact List.mem_append_right _ hp)
    refine wpAny_mono (turn i v m₁ r hh' tk' _ oI (by simpa using hP) hin hJ (fun p hp e => hoff p (.tail _ hp) (e ▸ .head _)) hne F₁ N₂) (fun f s₂ p => ?_) fun _ _ e => e
    obtain ⟨rfl, h', tk, m', news', e, F', N', hn, hm⟩ := p
    refine .next ⟨rfl, h', tk, m', (l, ol) :: news', e, F', fun p hp => ?_, fun p hp hI => ?_, _, rfl, hm⟩
    · rcases List.mem_append.mp hp with hp | hp
      · have h1 := hown2 p hp
        rcases List.mem_cons.mp (hown p hp) with h2 | h2
        · have : p = (s.heap.objs.size, oI) := Prod.ext h2 (by
            have h1' : hh'.get? p.1 = some p.2 := h1
            rw [h2] at h1'
            exact Option.some.inj (h1'.symm.trans hoI))
          exact this ▸ N' _ (.head _)
        · have h2 := List.mem_singleton.mp h2
          have h3 := (N₂ (l, ol) (.tail _ (.head _))).1
          have : p = (l, ol) := Prod.ext h2 (by
            have h1' : hh'.get? p.1 = some p.2 := h1
            rw [h2] at h1'
            exact Option.some.inj (h1'.symm.trans h3))
          exact this ▸ N' _ (.tail _ (.head _))
      · exact N' p (.tail _ hp)
    · have hI := List.mem_singleton.mp hI
      rcases List.mem_cons.mp hp with rfl | hp
      · exact hne hI
      · exact hn p hp hI
  · rintro h' tk m' news' F' N' _ ⟨r, rfl, hJ⟩
    exact done m' r h' tk hJ F' N'
end

end
section
section
variable {prog : Program} {w : World} {A : Around} {E : Value → Shared → Prop} {s : Shared} {env : Env} {h₀ : Heap} {x : Str} {target : Expr} {body : List Stmt} {Q : Flow → Shared → Prop}
/-- a loop over a made tuple, by what holds at its turns -/
theorem iter_tup {l : Addr} {ol : Obj} {vs : List Value} {m₀ : Str → Option Value} {news : List (Addr × Obj)} (J : Nat → (Str → Option Value) → List (Addr × Obj) → Prop)
    (hh : A.handled = none) (hl : s.heap.IsTuple l vs.toArray) (F : Fr h₀ env.locals s.heap m₀) (N : News h₀ env.locals s.heap ((l, ol) :: news)) (hj : J 0 m₀ news)
    (turn : ∀ i v m₁ news₁ h tk I oI, vs[i]? = some v → i < vs.length → J i m₁ news₁ → (∀ p ∈ news₁, p.1 ≠ I) → l ≠ I → Fr h₀ env.locals h (fun y => if y = x then some v else m₁ y) → News h₀ env.locals h ((I, oI) :: (l, ol) :: news₁) →
      wpAny (model prog w) A (execs body env) (TurnP h₀ env.locals I oI (l, ol) (J (i + 1)) { s with heap := h, toks := tk }) E { s with heap := h, toks := tk })
    (done : ∀ m₁ news₁ h tk, J vs.length m₁ news₁ → Fr h₀ env.locals h m₁ → News h₀ env.locals h ((l, ol) :: news₁) → Q .next { s with heap := h, toks := tk }) :
    wpAny (model prog w) A (pyIter (.ref l)) (fun it s₂ => LoopAtV prog w A h₀ env x body Q E it s₂) E s := by
  have hnl := N (l, ol) (.head _)
  have hlt : l < s.heap.objs.size := Heap.lt_size hnl.1
  have hne : l ≠ s.heap.objs.size := Nat.ne_of_lt hlt
  refine wpAny_pyIter_tuple hl ?_
  have W := Walks.tuple (prog := prog) (w := w) hh s.heap.objs.size l hne vs.toArray
  have hlen : vs.toArray.size = vs.length := by simp
  rw [hlen] at W
  let J' : Nat → (Str → Option Value) → List (Addr × Obj) → Prop := fun i m₁ news₁ => ∃ r, news₁ = (l, ol) :: r ∧ J i m₁ r
  refine ⟨_, _, _, vs.length, _, _, m₀, (l, ol) :: news, J', rfl, W, ?_, ?_, ?_, ⟨⟨_, Heap.get?_push_size _ rfl, rfl, rfl⟩, hl.at fun o e => Heap.get?_push_of_some _ e⟩, F.push _, (fun p hp => ⟨Heap.get?_push_of_some _ (N p hp).1, (N p hp).2⟩), ⟨_, rfl, hj⟩, ?_, ?_⟩
  · intro hm
    rcases List.mem_cons.mp hm with e | hm
    · exact absurd F.ns.lt (e ▸ Nat.lt_irrefl _)
    · exact absurd (List.mem_singleton.mp hm) (Ne.symm hnl.2.1)
  · intro b hb
    rw [List.mem_singleton.mp hb]
    exact next_is_new F
  · intro p hp hI
    exact absurd (Heap.lt_size (N p hp).1) ((List.mem_singleton.mp hI) ▸ Nat.lt_irrefl _)
  · rintro i v m₁ news₁ s₁ own ⟨hh', tk', rfl⟩ hin hP ⟨r, rfl, hJ⟩ hoff hown hown2 hown3 hst F₁ N₁
    obtain ⟨⟨oI, hoI, _⟩, _⟩ := hst
    have mI := hown3 s.heap.objs.size (.head _) (next_is_new F) oI hoI
    have N₂ : News h₀ env.locals hh' ((s.heap.objs.size, oI) :: (l, ol) :: r) := fun p hp => N₁ p (by
      rcases List.mem_cons.mp hp with rfl | hp
      · exact List.mem_append_left _ mI
      · exact List.mem_append_right _ hp)
    refine wpAny_mono (turn i v m₁ r hh' tk' _ oI (by simpa using hP) hin hJ (fun p hp e => hoff p (.tail _ hp) (e ▸ .head _)) hne F₁ N₂) (fun f s₂ p => ?_) fun _ _ e => e
    obtain ⟨rfl, h', tk, m', news', e, F', N', hn, hm⟩ := p
    refine .next ⟨rfl, h', tk, m', (l, ol) :: news', e, F', fun p hp => ?_, fun p hp hI => ?_, _, rfl, hm⟩
    · rcases List.mem_append.mp hp with hp | hp
      · have h1 := hown2 p hp
        rcases List.mem_cons.mp (hown p hp) with h2 | h2
        · have : p = (s.heap.objs.size, oI) := Prod.ext h2 (by
            have h1' : hh'.get? p.1 = some p.2 := h1
            rw [h2] at h1'
            exact Option.some.inj (h1'.symm.trans hoI))
          exact this ▸ N' _ (.head _)
        · have h2 := List.mem_singleton.mp h2
          have h3 := (N₂ (l, ol) (.tail _ (.head _))).1
          have : p = (l, ol) := Prod.ext h2 (by
            have h1' : hh'.get? p.1 = some p.2 := h1
            rw [h2] at h1'
            exact Option.some.inj (h1'.symm.trans h3))
          exact this ▸ N' _ (.tail _ (.head _))
      · exact N' p (.tail _ hp)
    · have hI := List.mem_singleton.mp hI
      rcases List.mem_cons.mp hp with rfl | hp
      · exact hne hI
      · exact hn p hp hI
  · rintro h' tk m' news' F' N' _ ⟨r, rfl, hJ⟩
    exact done m' r h' tk hJ F' N'
theorem iter_ownT {l : Addr} {ol : Obj} {vs : List Value} {m₀ : Str → Option Value} {news : List (Addr × Obj)} (J : Nat → (Str → Option Value) → List (Addr × Obj) → Prop)
    (hh : A.handled = none) (hl : s.heap.IsList l vs.toArray) (F : Fr h₀ env.locals s.heap m₀) (N : News h₀ env.locals s.heap ((l, ol) :: news)) (hj : J 0 m₀ news)
    (turn : ∀ i v m₁ news₁ h tk I oI, vs[i]? = some v → i < vs.length → J i m₁ news₁ → (∀ p ∈ news₁, p.1 ≠ I) → l ≠ I → Fr h₀ env.locals h m₁ → News h₀ env.locals h ((I, oI) :: (l, ol) :: news₁) →
      wpAny (model prog w) A (assign target env v) (fun _ s₃ => wpAny (model prog w) A (execs body env) (TurnP h₀ env.locals I oI (l, ol) (J (i + 1)) { s with heap := h, toks := tk }) E s₃) E { s with heap := h, toks := tk })
    (done : ∀ m₁ news₁ h tk, J vs.length m₁ news₁ → Fr h₀ env.locals h m₁ → News h₀ env.locals h ((l, ol) :: news₁) → Q .next { s with heap := h, toks := tk }) :
    wpAny (model prog w) A (pyIter (.ref l)) (fun it s₂ => TurnsAt prog w A h₀ env target body Q E it s₂) E s := by
  have hnl := N (l, ol) (.head _)
  have hlt : l < s.heap.objs.size := Heap.lt_size hnl.1
  have hne : l ≠ s.heap.objs.size := Nat.ne_of_lt hlt
  refine wpAny_pyIter_list hl ?_
  have W := Walks.list (prog := prog) (w := w) hh s.heap.objs.size l hne vs.toArray
  have hlen : vs.toArray.size = vs.length := by simp
  rw [hlen] at W
  let J' : Nat → (Str → Option Value) → List (Addr × Obj) → Prop := fun i m₁ news₁ => ∃ r, news₁ = (l, ol) :: r ∧ J i m₁ r
  refine ⟨_, _, _, vs.length, _, _, _, m₀, (l, ol) :: news, J', rfl, KTurns.ofWalks W fun i v s Q E st q => letGo_listiter st.1 q, ?_, ?_, ?_, ⟨⟨_, Heap.get?_push_size _ rfl, rfl, rfl⟩, hl.at fun o e => Heap.get?_push_of_some _ e⟩, F.push _, (fun p hp => ⟨Heap.get?_push_of_some _ (N p hp).1, (N p hp).2⟩), ⟨_, rfl, hj⟩, ?_, ?_⟩
  · intro hm
    rcases List.mem_cons.mp hm with e | hm
    · exact absurd F.ns.lt (e ▸ Nat.lt_irrefl _)
    · exact absurd (List.mem_singleton.mp hm) (Ne.symm hnl.2.1)
  · intro b hb
    rw [List.mem_singleton.mp hb]
    exact next_is_new F
  · intro p hp hI
    exact absurd (Heap.lt_size (N p hp).1) ((List.mem_singleton.mp hI) ▸ Nat.lt_irrefl _)
  · rintro i v m₁ news₁ hh' tk' own hin hP ⟨r, rfl, hJ⟩ hoff hown hown2 hown3 hst F₁ N₁
    obtain ⟨⟨oI, hoI, _⟩, _⟩ := hst
    have mI := hown3 s.heap.objs.size (.head _) (next_is_new F) oI hoI
    have N₂ : News h₀ env.locals hh' ((s.heap.objs.size, oI) :: (l, ol) :: r) := fun p hp => N₁ p (by
      rcases List.mem_cons.mp hp with rfl | hp
      · exact List.mem_append_left _ mI
      · exact List.mem_append_right _ hp)
    refine wpAny_mono (turn i v m₁ r hh' tk' _ oI (by simpa using hP) hin hJ (fun p hp e => hoff p (.tail _ hp) (e ▸ .head _)) hne F₁ N₂) (fun _ s₂ h₂ => wpAny_mono h₂ (fun f s₃ p => ?_) fun _ _ e => e) fun _ _ e => e
    obtain ⟨rfl, h', tk, m', news', e, F', N', hn, hm⟩ := p
    refine .next ⟨rfl, h', tk, m', (l, ol) :: news', e, F', fun p hp => ?_, fun p hp hI => ?_, _, rfl, hm⟩
    · rcases List.mem_append.mp hp with hp | hp
      · have h1 := hown2 p hp
        rcases List.mem_cons.mp (hown p hp) with h2 | h2
        · have : p = (s.heap.objs.size, oI) := Prod.ext h2 (by
            have h1' : hh'.get? p.1 = some p.2 := h1
            rw [h2] at h1'
            exact Option.some.inj (h1'.symm.trans hoI))
          exact this ▸ N' _ (.head _)
        · have h2 := List.mem_singleton.mp h2
          have h3 := (N₂ (l, ol) (.tail _ (.head _))).1
          have : p = (l, ol) := Prod.ext h2 (by
            have h1' : hh'.get? p.1 = some p.2 := h1
            rw [h2] at h1'
            exact Option.some.inj (h1'.symm.trans h3))
          exact this ▸ N' _ (.tail _ (.head _))
      · exact N' p (.tail _ hp)
    · have hI := List.mem_singleton.mp hI
      rcases List.mem_cons.mp hp with rfl | hp
      · exact hne hI
      · exact hn p hp hI
  · rintro h' tk m' news' F' N' _ ⟨r, rfl, hJ⟩
    exact done m' r h' tk hJ F' N'
end

end
section
/-! the law's loops: what holds at each turn -/
/-- the walk stops at a goal that it meets so -/
def Halt (P : Prop) : Prop := P
theorem Halt.get {P : Prop} (h : Halt P) : P := h
theorem Halt.mk {P : Prop} (h : P) : Halt P := h
/-- the octets that an entry of the row asks for -/
def enc1 (q : Bool × Int) : List Int := if q.1 then spread (rot q.2) (iw q.2) else spread q.2 (uw q.2)
def enc (its : List (Bool × Int)) : List Int := (its.map enc1).flatten
def ItOk (q : Bool × Int) : Prop := if q.1 then -268435456 ≤ q.2 ∧ q.2 < 268435456 else 0 ≤ q.2 ∧ q.2 < 536870912
/-- a tuple (signed, value, stop) of the row -/
def wantT (q : Bool × Int) (stop : Int) (tv tp : Tok) : Obj := { cls := .type "tuple", data := .seq [.bool q.1, .int q.2 tv, .int stop tp].toArray }
structure Row (its : List (Bool × Int)) (bb : Array UInt8) (vals : List Value) (rest : List (Addr × Obj)) (W : Addr) : Prop where
  ok : ∀ q ∈ its, ItOk q
  hi : KBw.bInts bb = enc its
  len : vals.length = its.length
  got : ∀ j q, its[j]? = some q → ∃ T tv tp, vals[j]? = some (.ref T) ∧ (T, wantT q (enc (its.take (j + 1))).length tv tp) ∈ rest
  off : ∀ p ∈ rest, p.1 ≠ W
theorem enc_app (a b : List (Bool × Int)) : enc (a ++ b) = enc a ++ enc b := by unfold enc; rw [List.map_append, List.flatten_append]
theorem enc1_len (q : Bool × Int) : (enc1 q).length ≤ 4 := by
  unfold enc1
  split
  · rw [spread_len _ (iw_wd _)]; rcases iw_wd q.2 with h | h | h <;> rw [h] <;> decide
  · rw [spread_len _ (uw_wd _)]; rcases uw_wd q.2 with h | h | h <;> rw [h] <;> decide
theorem enc_len (its : List (Bool × Int)) : (enc its).length ≤ 4 * its.length := by
  induction its with
  | nil => exact Nat.le_refl _
  | cons q r ih =>
    have e : enc (q :: r) = enc1 q ++ enc r := rfl
    have := enc1_len q
    rw [e, List.length_append, List.length_cons]; omega
theorem enc_one (q : Bool × Int) : enc [q] = enc1 q := by show enc1 q ++ [] = _; rw [List.append_nil]
theorem Row.more {its : List (Bool × Int)} {bb : Array UInt8} {vals : List Value} {rest rest' : List (Addr × Obj)} {W : Addr} (R : Row its bb vals rest W) (h : ∀ p ∈ rest, p ∈ rest') (h' : ∀ p ∈ rest', p.1 ≠ W) : Row its bb vals rest' W :=
  ⟨R.ok, R.hi, R.len, fun j q hj => let ⟨T, tv, tp, h1, h2⟩ := R.got j q hj; ⟨T, tv, tp, h1, h _ h2⟩, h'⟩
theorem Row.nil {rest : List (Addr × Obj)} {W : Addr} (h : ∀ p ∈ rest, p.1 ≠ W) : Row [] #[] [] rest W :=
  { ok := fun _ h => (nomatch h), hi := rfl, len := rfl, got := fun j q hj => (nomatch hj), off := h }
/-- the names of the law behind its first rows -/
def mapA (body wanted drawn script : Value) (u : Str → Option Value) : Str → Option Value := fun y =>
  if y = Str.ofString "good" then some (.bool true) else if y = Str.ofString "body" then some body else if y = Str.ofString "wanted" then some wanted
  else if y = Str.ofString "drawn" then some drawn else if y = Str.ofString "script" then some script else u y
theorem mapA_of {m : Str → Option Value} {body wanted drawn script : Value} (h1 : m (Str.ofString "good") = some (.bool true)) (h2 : m (Str.ofString "body") = some body) (h3 : m (Str.ofString "wanted") = some wanted) (h4 : m (Str.ofString "drawn") = some drawn) (h5 : m (Str.ofString "script") = some script) :
    m = mapA body wanted drawn script m := by
  funext y
  unfold mapA
  split
  · next h => rw [h, h1]
  split
  · next h => rw [h, h2]
  split
  · next h => rw [h, h3]
  split
  · next h => rw [h, h4]
  split
  · next h => rw [h, h5]
  rfl
section
variable {prog : Program} {w : World} {A : Around} {E : Value → Shared → Prop} {s : Shared} {env : Env} {h₀ : Heap} {x : Str} {body : List Stmt} {Q : Flow → Shared → Prop}
end

end
section
theorem Pure.mono {w : World} {D : Nat} {f : Addr} {vs : List Value} {R R' : Value → Prop} (H : Pure w D f vs R) (h : ∀ v, R v → R' v) : Pure w D f vs R' := by
  unfold Pure at *
  intro mean mg mb dp un gd cn cs a ccd cl outer A₀ base h₀ L m news s Q E B F X N T' hk hd hu hret
  exact H mean mg mb dp un gd cn cs a ccd cl outer A₀ base h₀ L m news s Q E B F X N T' hk hd hu fun v h' tk' r => hret v h' tk' (h v r)
theorem oct_u_out (w : World) (n : Int) (t : Tok) (hn : -1073741824 ≤ n ∧ n ≤ 1073741824) (h : ¬ (0 ≤ n ∧ n < 536870912)) : Pure w 40 262 [.int n t, .bool false] (fun v => v = .none) :=
  (law_octets_u w n t hn).mono fun v r => by
    rcases r with ⟨a, b, _⟩ | ⟨_, r⟩
    · exact absurd ⟨a, b⟩ h
    · exact r
theorem oct_s_in (w : World) (n : Int) (t : Tok) (h : -268435456 ≤ n ∧ n < 268435456) : Pure w 40 262 [.int n t, .bool true] (fun v => ∃ t, v = .bytes (byteArr (spread (rot n) (iw n))) t) :=
  (law_octets_s w n t ⟨by omega, by omega⟩).mono fun v r => by
    rcases r with ⟨_, _, r⟩ | ⟨r, _⟩
    · exact r
    · exact absurd h r
theorem oct_s_out (w : World) (n : Int) (t : Tok) (hn : -1073741824 ≤ n ∧ n ≤ 1073741824) (h : ¬ (-268435456 ≤ n ∧ n < 268435456)) : Pure w 40 262 [.int n t, .bool true] (fun v => v = .none) :=
  (law_octets_s w n t hn).mono fun v r => by
    rcases r with ⟨a, b, _⟩ | ⟨_, r⟩
    · exact absurd ⟨a, b⟩ h
    · exact r
theorem Call.mono {w : World} {D : Nat} {f : Addr} {vs : List Value} {news : List (Addr × Obj)} {R R' : Value → List (Addr × Obj) → Prop} {X X' : Addr → List (Addr × Obj) → Prop} (H : Call w D f vs news R X) (h : ∀ v n, R v n → R' v n) (h' : ∀ c n, X c n → X' c n) : Call w D f vs news R' X' := by
  unfold Call at *
  intro mean mg mb dp un gd cn cs a ccd outer A₀ base h₀ L m s Q E B F Xh N T' hk hd hu hret hexc
  exact H mean mg mb dp un gd cn cs a ccd outer A₀ base h₀ L m s Q E B F Xh N T' hk hd hu (fun v h₁ tk' nw r => hret v h₁ tk' nw (h v nw r)) fun C e t xs h₁ tk' nw g' z => hexc C e t xs h₁ tk' nw g' (h' C nw z)
theorem comp_u_in (w : World) (n : Int) (t : Tok) (news : List (Addr × Obj)) (h : 0 ≤ n ∧ n < 536870912) : Call w 40 184 [.int n t] news (fun v nw => nw = news ∧ (∃ t, v = .bytes (byteArr (spread n (uw n))) t) ∧ True) (fun _ _ => False) :=
  (compress_uint_ok w n t news).mono (fun v nw r => ⟨r.1, r.2.1, trivial⟩) fun c nw z => z.2.2 h
theorem comp_u_out (w : World) (n : Int) (t : Tok) (news : List (Addr × Obj)) (h : ¬ (0 ≤ n ∧ n < 536870912)) : Call w 40 184 [.int n t] news (fun _ _ => False) (fun C nw => nw = news ∧ C = 63 ∧ True) :=
  (compress_uint_ok w n t news).mono (fun v nw r => h r.2.2) fun c nw z => ⟨z.1, z.2.1, trivial⟩
theorem comp_s_in (w : World) (n : Int) (t : Tok) (news : List (Addr × Obj)) (h : -268435456 ≤ n ∧ n < 268435456) : Call w 40 226 [.int n t] news (fun v nw => nw = news ∧ (∃ t, v = .bytes (byteArr (spread (rot n) (iw n))) t) ∧ True) (fun _ _ => False) :=
  (compress_int_ok w n t news).mono (fun v nw r => ⟨r.1, r.2.1, trivial⟩) fun c nw z => z.2.2 h
theorem comp_s_out (w : World) (n : Int) (t : Tok) (news : List (Addr × Obj)) (h : ¬ (-268435456 ≤ n ∧ n < 268435456)) : Call w 40 226 [.int n t] news (fun _ _ => False) (fun C nw => nw = news ∧ C = 63 ∧ True) :=
  (compress_int_ok w n t news).mono (fun v nw r => h r.2.2) fun c nw z => ⟨z.1, z.2.1, trivial⟩
theorem spread_le (n k : Int) : (spread n k).length ≤ 4 := by
  unfold spread; split
  · exact Nat.le_of_ble_eq_true rfl
  · split <;> exact Nat.le_of_ble_eq_true rfl
theorem eq_same {prog : Program} {w : World} {A : Around} {E : Value → Shared → Prop} {s : Shared} {b : Array UInt8} {t u : Tok} {Q : Value → Shared → Prop} (h : Q (.bool true) s) : wpAny (model prog w) A (compareOp .Eq (.bytes b t) (.bytes b u)) Q E s := by
  refine eq_bytes ?_
  rw [show (b.toList == b.toList) = true from beq_self_eq_true _]
  exact h
theorem add_size {a b : List Int} (h : a.length ≤ 1000) (h' : b.length ≤ 4) : a.length + b.length ≤ 16777216 := by omega
theorem add_size2 {a b c : List Int} (h : a.length ≤ 1000) (h' : b.length ≤ 4) (h'' : c.length ≤ 4) : (a ++ b).length + c.length ≤ 16777216 := by rw [List.length_append]; omega
section
variable {prog : Program} {w : World} {A : Around} {E : Value → Shared → Prop} {s : Shared} {b : Array UInt8} {t u : Tok} {Q : Value → Shared → Prop} {ks : List Int} {z : Int}
theorem size_1 {a : List Int} (h : a.length ≤ 1000) : a.length ≤ 1004 := by omega
theorem size_2 {a b : List Int} (h : a.length ≤ 1000) (h' : b.length ≤ 4) : (a ++ b).length ≤ 1004 := by rw [List.length_append]; omega
theorem add_u (hb : KBw.bInts b = ks) (hz : 0 ≤ z ∧ z < 536870912) (hk : ks.length ≤ 1004) (h : ∀ t' k, KBw.bInts (b ++ byteArr (spread z (uw z))) = ks ++ spread z (uw z) → Q (.bytes (b ++ byteArr (spread z (uw z))) t') { s with toks := k }) :
    wpAny (model prog w) A (binaryOp .Add (.bytes b t) (.bytes (byteArr (spread z (uw z))) u)) Q E s :=
  KBa.add_K hb (spread_ints (uw_holds hz)) (by have := spread_le z (uw z); omega) h
theorem add_s (hb : KBw.bInts b = ks) (hz : -268435456 ≤ z ∧ z < 268435456) (hk : ks.length ≤ 1004) (h : ∀ t' k, KBw.bInts (b ++ byteArr (spread (rot z) (iw z))) = ks ++ spread (rot z) (iw z) → Q (.bytes (b ++ byteArr (spread (rot z) (iw z))) t') { s with toks := k }) :
    wpAny (model prog w) A (binaryOp .Add (.bytes b t) (.bytes (byteArr (spread (rot z) (iw z))) u)) Q E s :=
  KBa.add_K hb (spread_ints (iw_holds hz)) (by have := spread_le (rot z) (iw z); omega) h
end

end
section
open Builtin
theorem bj_slot : Slot "bytes" "join" "bytes.join" :=
  .of (owner := "bytes") (n := "join") (by rw [typeLookup_type, builtinLookup_eq_fast]; kernel_rfl) (by decide +kernel) (by decide +kernel) (by decide +kernel)
    (by first | exact .inl (by decide +kernel) | exact .inr (by decide +kernel)) (by rw [isSubtype_type]; kernel_rfl)
theorem bj_entry : entryFor table "bytes.join" = some Builtin.«bytes.join» := entryFor_of_tree (by kernel_rfl)
theorem bj_args (a b : Value) : argsOk "bytes.join" ⟨[a, b], []⟩ := by
  unfold argsOk; rw [signature?_of (id := "bytes.join") (n := ['n', 'i', 'o', 'j']) (o := ['s', 'e', 't', 'y', 'b']) (by kernel_rfl) FB.owner_bytes]; kernel_rfl
section
variable {prog : Program} {w : World} {M : Model} {A : Around} {E : Value → Shared → Prop} {s : Shared} {b : Array UInt8} {t : Tok}
theorem bj_buf {id : String} {full : Bool} : Bytes.buffer? id (.bytes b t) full = pure (some b) := by
  unfold Bytes.buffer?
  rw [KBy.special_eq KBy.look_buffer, KBy.own_buffer, KBy.own_release]
  kernel_rfl
theorem bj_take : Bytes.takeBuffer? "bytes.join" (.bytes b t) 0 = pure (some (b, none)) := by
  unfold Bytes.takeBuffer?
  rw [KBy.special_eq KBy.look_buffer, KBy.own_buffer]
  simp only [bj_buf]
  kernel_rfl
theorem bj_quiet : Bytes.takeBufferQuiet? "bytes.join" (.bytes b t) 0 = pure (some (b, none)) := by
  unfold Bytes.takeBufferQuiet?
  rw [bj_take]
  rfl
theorem bj_letGo : ∀ (taken : List (Value × Option Value)) (keep : List Value) {s : Shared} {Q : Unit → Shared → Prop}, (∀ q ∈ taken, q.2 = none) → Q () s → wpAny M A (Bytes.joinLetGo taken keep) Q E s
  | [], _, _, _, _, h => wpAny_pure h
  | (x, o) :: rest, keep, _, _, hq, h => by
    obtain rfl : o = none := hq _ (.head _)
    unfold Bytes.joinLetGo
    exact wpAny_bind (wpAny_letGo (bj_letGo rest keep (fun q hm => hq q (.tail _ hm)) h))
theorem bj_size : ∀ (l : List (Array UInt8 × Nat)) (out : Array UInt8), (∀ p ∈ l, p.1.size ≤ 4) → (l.foldl (fun out (p : Array UInt8 × Nat) => (if p.2 > 0 then out ++ #[] else out) ++ p.1) out).size ≤ out.size + 4 * l.length
  | [], out, _ => by simp
  | p :: r, out, h => by
    rw [List.foldl_cons]
    have h1 := bj_size r ((if p.2 > 0 then out ++ #[] else out) ++ p.1) fun q hq => h q (.tail _ hq)
    have h2 := h p (.head _)
    have h3 : ((if p.2 > 0 then out ++ #[] else out) ++ p.1).size = out.size + p.1.size := by split <;> simp
    rw [List.length_cons]; omega
theorem bj_joined (l : List (Array UInt8)) (h : ∀ p ∈ l, p.size ≤ 4) : (Bytes.joined #[] l).size ≤ 4 * l.length := by
  have := bj_size l.zipIdx #[] fun p hp => h _ (by obtain ⟨q, i⟩ := p; exact (List.mem_zipIdx hp).2.2 ▸ List.getElem_mem _)
  simpa [Bytes.joined] using this
theorem bj_total : ∀ (l : List (Array UInt8)) (n : Nat), (∀ p ∈ l, p.size ≤ 4) → l.foldl (fun a p => a + p.size) n ≤ n + 4 * l.length
  | [], n, _ => by simp
  | p :: r, n, h => by
    have h1 := bj_total r (n + p.size) fun q hq => h q (.tail _ hq)
    have h2 := h p (.head _)
    rw [List.foldl_cons, List.length_cons]; omega
theorem join_bytes {D : Addr} {items : Array Value} {u : Tok} {Q : Value → Shared → Prop} (hl : s.heap.IsList D items) (hb : ∀ v ∈ items.toList, ∃ b t, v = .bytes b t ∧ b.size ≤ 4) (hn : items.size ≤ 100)
    (h : ∀ (o : Array UInt8) t' k, o.size ≤ 4 * items.size → Q (.bytes o t') { s with toks := k }) : wpAny (model prog w) A (call (.builtin "bytes.join") [.bytes #[] u, .ref D]) Q E s := by
  have hT : s.TypeIs (.ref D) "list" := hl.typeIs
  obtain ⟨ol, hol, hoc, nl, hod⟩ := id hl
  refine wpAny_call_entry bj_slot (typeIs_bytes s #[] u) bj_entry ?_ (bj_args _ _)
  show wpAny _ _ (Bytes.joinM .bytes ⟨[.bytes #[] u, .ref D], []⟩) _ _ s
  unfold Bytes.joinM
  refine wpAny_bind (wpAny_of_eq (a := (Value.bytes #[] u, Value.ref D)) rfl ?_)
  refine wpAny_bind ?_
  show wpAny _ _ (Bytes.joinItems (.ref D)) _ _ s
  unfold Bytes.joinItems
  refine wpAny_bind (wpAny_typeOf hT ?_)
  refine wpAny_pure ?_
  have hseq : ∀ {s' : Shared} {R : Option (Array Value) → Shared → Prop}, s'.heap = s.heap → R (some items) s' → wpAny (model prog w) A.in1 (seqItems? (.ref D)) R E s' := by
    intro s' R e r
    refine wpAny_bind (wpAny_load (o := ol) (by rw [e]; exact hol) ?_)
    rw [hod]
    exact wpAny_pure r
  refine wpAny_bind (hseq rfl ?_)
  refine bm_if_true (by decide) ?_
  have hD : ∃ l, items = Array.mk l := ⟨items.toList, rfl⟩
  obtain ⟨l, hl0⟩ := hD
  rw [hl0]
  rcases l with _ | ⟨x, _ | ⟨y, r⟩⟩
  rotate_left
  · obtain ⟨b, t, rfl, hsz⟩ := hb x (by rw [hl0]; exact .head _)
    dsimp only
    refine wpAny_bind (wpAny_typeOf (typeIs_bytes s b t) (bm_if_true (by decide) (wpAny_bind (wpAny_rule ?_))))
    refine wpAny_pure ⟨_, rfl, ?_⟩
    have := h b t s.toks (by rw [hl0]; simp; omega)
    exact this
  all_goals show wpAny _ _ (forIn _ _ _ >>= _) _ _ _
  all_goals (try dsimp only)
  all_goals rw [← hl0]
  all_goals clear hl0
  all_goals (
  refine wpAny_bind ?_
  rw [Std.Legacy.Range.forIn_eq_forIn_range']
  refine wpAny_forIn_list _ (fun rest st s' => s' = s ∧ (∀ i ∈ rest, i < items.size) ∧ st.1.size + rest.length = items.size ∧ (∀ p ∈ st.1.toList, p.size ≤ 4) ∧ (∀ q ∈ st.2, q.2 = none ∧ ∃ b t, q.1 = .bytes b t)) _ ?_ ?_ _ _ ?_
  · rintro i rest st s' ⟨rfl, hi, hsz, hp, hq⟩
    refine wpAny_bind (hseq rfl ?_)
    dsimp only
    have hi' := hi i (.head _)
    obtain ⟨b, t, hv, hb4⟩ := hb items[i] (by simp)
    have hx : items.getD i Value.none = .bytes b t := by rw [← hv]; simp [Array.getD, hi']
    rw [hx]
    have hany : (st.2.any fun x => x.1.onHeap) = false := by
      rw [List.any_eq_false]
      intro q hm
      obtain ⟨_, b', t', e⟩ := hq q hm
      rw [e]; exact Bool.false_ne_true
    refine bm_if_false (by rw [hany]; rfl) ?_
    refine wpAny_bind (wpAny_holding (wpAny_of_eq bj_quiet ?_))
    dsimp only
    refine wpAny_bind (hseq rfl ?_)
    dsimp only
    refine bm_if_false (by simp) (wpAny_pure ?_)
    refine ⟨rfl, fun j hj => hi j (.tail _ hj), ?_, ?_, ?_⟩
    · rw [Array.size_push]; rw [List.length_cons] at hsz; omega
    · intro p hm
      rw [Array.toList_push] at hm
      rcases List.mem_append.mp hm with hm | hm
      · exact hp p hm
      · rw [List.mem_singleton.mp hm]; exact hb4
    · intro q hm
      rcases List.mem_append.mp hm with hm | hm
      · exact hq q hm
      · rw [List.mem_singleton.mp hm]; exact ⟨rfl, b, t, rfl⟩
  · rintro st s' ⟨rfl, -, hsz, hp, hq⟩
    (try dsimp only)
    refine wpAny_bind (wpAny_of_eq (a := #[]) rfl ?_)
    have hn' : st.1.toList.length ≤ 100 := by simp at hsz ⊢; omega
    have ht := bj_total st.1.toList 0 hp
    refine bm_if_false ?_ ?_
    · unfold Bytes.tooLong
      rw [sizeLine_eq, ← Array.foldl_toList]
      simp
      simp at ht
      omega
    · have hj := bj_joined st.1.toList hp
      refine wpAny_bind ?_
      show wpAny _ _ (mkBytes _) _ _ _
      refine wpAny_mkBytes ?_ (by rw [sizeLine_eq]; omega)
      refine wpAny_bind (wpAny_holding (wpAny_point ?_))
      refine wpAny_bind (bj_letGo _ _ (fun q hm => (hq q hm).1) ?_)
      refine wpAny_pure ⟨_, rfl, h _ _ _ (Nat.le_trans hj (by simp at hsz ⊢; omega))⟩
  · refine ⟨rfl, fun i hi => ?_, ?_, fun p hp => (nomatch hp), fun q hq => (nomatch hq)⟩
    · have := List.mem_range'.mp hi
      obtain ⟨j, hj, e⟩ := this
      simp [Std.Legacy.Range.size] at hj e ⊢
      omega
    · simp [Std.Legacy.Range.size])
end

end
section
@[reducible] noncomputable def sA : Stmt := by
  refine (?g : (atB fB31 4 = (?b : Stmt)) → Stmt) ?h
  case g => exact fun _ => ?b
  case h => (conv => lhs; whnf)
@[reducible] noncomputable def bA : List Stmt := by
  refine (?g : (forB sA = (?b : List Stmt)) → List Stmt) ?h
  case g => exact fun _ => ?b
  case h => (conv => lhs; whnf)
@[reducible] noncomputable def sA2 : Stmt := by
  refine (?g : (atB bA 1 = (?b : Stmt)) → Stmt) ?h
  case g => exact fun _ => ?b
  case h => (conv => lhs; whnf)
@[reducible] noncomputable def bA2 : List Stmt := by
  refine (?g : (forB sA2 = (?b : List Stmt)) → List Stmt) ?h
  case g => exact fun _ => ?b
  case h => (conv => lhs; whnf)
@[reducible] noncomputable def sB : Stmt := by
  refine (?g : (atB fB31 9 = (?b : Stmt)) → Stmt) ?h
  case g => exact fun _ => ?b
  case h => (conv => lhs; whnf)
@[reducible] noncomputable def bB : List Stmt := by
  refine (?g : (forB sB = (?b : List Stmt)) → List Stmt) ?h
  case g => exact fun _ => ?b
  case h => (conv => lhs; whnf)
@[reducible] noncomputable def sC : Stmt := by
  refine (?g : (atB fB31 12 = (?b : Stmt)) → Stmt) ?h
  case g => exact fun _ => ?b
  case h => (conv => lhs; whnf)
@[reducible] noncomputable def bC : List Stmt := by
  refine (?g : (forB sC = (?b : List Stmt)) → List Stmt) ?h
  case g => exact fun _ => ?b
  case h => (conv => lhs; whnf)
@[reducible] noncomputable def sD : Stmt := by
  refine (?g : (atB bC 4 = (?b : Stmt)) → Stmt) ?h
  case g => exact fun _ => ?b
  case h => (conv => lhs; whnf)
@[reducible] noncomputable def bD : List Stmt := by
  refine (?g : (forB sD = (?b : List Stmt)) → List Stmt) ?h
  case g => exact fun _ => ?b
  case h => (conv => lhs; whnf)
/-- what stands while the law's own frame runs -/
structure LawC (w : World) (base h₀ : Heap) (mean : ExcName → Option Value) (mg mb : Str → Option Value) : Prop where
  B : Below callerA base [] h₀
  X : (Mine.K w.params).In h₀
  T : Top Mine.view (looseW Mine.view []) mean mg mb h₀
  XB : (Mine.K w.params).In base
  TB : Top Mine.view (looseW Mine.view []) mean mg mb base
theorem News.sub {h₀ h : Heap} {L : Addr} {l l' : List (Addr × Obj)} (N : News h₀ L h l) (hs : ∀ p ∈ l', p ∈ l) : News h₀ L h l' := fun p hp => N p (hs p hp)
/-- the names of the law while it puts a number -/
def mapV (value body wanted drawn script : Value) (u : Str → Option Value) : Str → Option Value := fun y =>
  if y = Str.ofString "value" then some value else mapA body wanted drawn script u y
theorem mapV_of {m : Str → Option Value} {value body wanted drawn script : Value} (h0 : m (Str.ofString "value") = some value) (h1 : m (Str.ofString "good") = some (.bool true)) (h2 : m (Str.ofString "body") = some body) (h3 : m (Str.ofString "wanted") = some wanted) (h4 : m (Str.ofString "drawn") = some drawn) (h5 : m (Str.ofString "script") = some script) :
    m = mapV value body wanted drawn script m := by
  funext y
  unfold mapV
  split
  · next h => rw [h, h0]
  · exact congrFun (mapA_of h1 h2 h3 h4 h5) y
theorem fr_mapV {h₀ h : Heap} {L : Addr} {m : Str → Option Value} {value body wanted drawn script : Value} (F : Fr h₀ L h m) (h0 : m (Str.ofString "value") = some value) (h1 : m (Str.ofString "good") = some (.bool true)) (h2 : m (Str.ofString "body") = some body) (h3 : m (Str.ofString "wanted") = some wanted) (h4 : m (Str.ofString "drawn") = some drawn) (h5 : m (Str.ofString "script") = some script) :
    Fr h₀ L h (mapV value body wanted drawn script m) := by rw [← mapV_of h0 h1 h2 h3 h4 h5]; exact F
theorem fr_mapA {h₀ h : Heap} {L : Addr} {m : Str → Option Value} {body wanted drawn script : Value} (F : Fr h₀ L h m) (h1 : m (Str.ofString "good") = some (.bool true)) (h2 : m (Str.ofString "body") = some body) (h3 : m (Str.ofString "wanted") = some wanted) (h4 : m (Str.ofString "drawn") = some drawn) (h5 : m (Str.ofString "script") = some script) :
    Fr h₀ L h (mapA body wanted drawn script m) := by rw [← mapA_of h1 h2 h3 h4 h5]; exact F
/-- what the law's frame does with an exception that it does not catch -/
abbrev lvE (w : World) (cn : Str) (L a : Addr) (ccd : Value) (Q₁ E₁ : Value → Shared → Prop) : Value → Shared → Prop := fun e s' =>
  wpAny (model PySem.Challenge.rw_sa0222_01.row.prog w) (callerA.deeper (envOf cn fS31 L a ccd)) (leaving (envOf cn fS31 L a ccd) e) (fun _ s'' => Q₁ e s'') E₁ s'
theorem fr_back {h₀ g h : Heap} {L : Addr} {m : Str → Option Value} (T : KtsTurn [] h₀ g) (F : Fr g L h m) : Fr h₀ L h m :=
  ⟨F.ns, fun b o e => F.keep b o (T.other b o e (by simp)), by rw [← T.size]; exact F.above⟩
theorem news_back {h₀ g h : Heap} {L : Addr} {l : List (Addr × Obj)} (T : KtsTurn [] h₀ g) (N : News g L h l) : News h₀ L h l := fun p hp => by
  obtain ⟨a, b, c⟩ := N p hp
  refine ⟨a, b, ?_⟩
  cases q : h₀.get? p.1 with
  | none => rfl
  | some o => rw [T.other _ o q (by simp)] at c; cases c
section
variable {prog : Program} {w : World} {A : Around} {E : Value → Shared → Prop} {s : Shared} {h₀ : Heap} {L W : Addr} {m : Str → Option Value} {rest : List (Addr × Obj)} {vals : List Value} {c : Nat} {Q : Value → Shared → Prop}
theorem new_want {a b d : Value} (F : Fr h₀ L s.heap m) (N : News h₀ L s.heap ((W, PySem.W.listOf vals.toArray c) :: rest))
    (h : ∀ T h', (∀ p ∈ (W, PySem.W.listOf vals.toArray c) :: rest, p.1 < T) → Fr h₀ L h' m → News h₀ L h' ((T, ({ cls := .type "tuple", data := .seq [a, b, d].toArray } : Obj)) :: (W, PySem.W.listOf vals.toArray c) :: rest) → Q (.ref T) { s with heap := h' }) :
    wpAny (model prog w) A (newTuple [a, b, d]) Q E s :=
  newTuple_N F N (fun h' F' N' => h _ h' (fun p hp => Heap.lt_size (N p hp).1) F' N') (by rw [PySem.sizeLine_eq]; exact Nat.le_of_ble_eq_true rfl)
theorem app_want {T : Addr} {o : Obj} (F : Fr h₀ L s.heap m) (N : News h₀ L s.heap ((T, o) :: (W, PySem.W.listOf vals.toArray c) :: rest)) (hl : ∀ p ∈ (W, PySem.W.listOf vals.toArray c) :: rest, p.1 < T) (off : ∀ p ∈ rest, p.1 ≠ W) (hv : vals.length ≤ 100)
    (h : ∀ h', Fr h₀ L h' m → News h₀ L h' ((W, PySem.W.listOf (vals ++ [Value.ref T]).toArray (c + 1)) :: (T, o) :: rest) → Q .none { s with heap := h' }) :
    wpAny (model prog w) A (call (.builtin "list.append") [.ref W, .ref T]) Q E s := by
  have hT : T ≠ W := Nat.ne_of_gt (hl _ (.head _))
  refine append_at (N _ (.tail _ (.head _))).1 (fun h' hs ho' => ?_) (by rw [PySem.sizeLine_eq]; show vals.toArray.size ≤ _; rw [List.size_toArray]; omega)
  have z := N (W, PySem.W.listOf vals.toArray c) (.tail _ (.head _))
  refine h h' (F.change hs z.2.1 z.2.2) ?_
  have N1 : News h₀ L h' ([(T, o)] ++ (W, PySem.W.listOf (vals ++ [Value.ref T]).toArray (c + 1)) :: rest) := news_set (pre := [(T, o)]) N (fun p hp => by rw [List.mem_singleton.mp hp]; exact hT) off hs (by rw [ho']; congr 3; simp)
  exact News.sub N1 (fun p hp => by simp only [List.mem_cons, List.mem_append, List.not_mem_nil, or_false] at hp ⊢; rcases hp with h | h | h <;> simp [h])
theorem len_app {b : Array UInt8} {t : Tok} {ks sp : List Int} (h : KBw.bInts b = ks ++ sp) (hk : ks.length ≤ 1000) (hs : sp.length ≤ 4) (hq : Q (.int ((KBw.bInts b).length : Nat) (s.toks + 1)) { s with toks := s.toks + 1 + 1 }) :
    wpAny (model prog w) A (call (.builtin "len") [.bytes b t]) Q E s := KBw.len_K rfl (by rw [h, List.length_append]; omega) hq
end


theorem w35 : True := by
  k_with_none
  (k_with "call ref" => ((k_here; refine wpAny_call ?_; k_dflt (walk_at "mine enterF"))))
  (k_with "call type:bytes" => ((k_here; (with_reducible show wpAny _ _ (call (Value.type "bytes") [Value.ref _]) _ _ _); k_dflt (refine' Mine.call_bytes_tuple (by k_asm) (by k_asm) (by rfl) (by exact News.isTup (by k_asm) (by k_mem)) (by kba_listInts) ?_ (by kba_size) ?_; rotate_left); intro _ _ _ F' N' kbaIn)))
  (k_with "exec Raise some none" => ((k_here; (with_reducible show wpAny _ _ (exec (Stmt.Raise (some (Expr.Call (Expr.Name ("BadSig" : Str) _) _ _ _)) none _) _) _ _ _); k_dflt (refine Raise_own (C := 63) rfl ?_))))
  (k_with "exec Raise some none" => ((k_here; (with_reducible show wpAny _ _ (exec (Stmt.Raise (some (Expr.Call (Expr.Name ("BadImage" : Str) _) _ _ _)) none _) _) _ _ _); k_dflt (refine Raise_own (C := 51) rfl ?_))))
  (k_with "call ref" => ((k_here; (with_reducible show wpAny _ _ (call (Value.ref _) [_, _]) (RaisableX _ _) _ _); k_dflt (refine' raise_call _ _ _ _ (by first | exact excC_63 _ | exact excC_51 _) (by k_asm) (by k_asm) (by k_asm) (by k_asm) (by k_asm) (by exact rfl) (by ktr_room) (by ktr_units) ?_; k_whole; intro h' tk' e' t' d' F' N' hne' hnt'; (try dsimp only)))))
  (k_with "leaving ref" => ((k_here; first
  | (refine' leave_mine (by assumption) (by assumption) (by assumption) (by assumption) (by assumption) ?_; k_whole; intro h' R' U'; (try dsimp only))
  | (refine' leave_onS (by assumption) (by assumption) (by assumption) (by assumption) ?_; k_whole; intro h' R' RK' U'; (try dsimp only)))))
  (k_with "binaryOp Pow int int" => ((k_here; dsimp only; walk_at "binaryOp Pow int int")))
  (k_with "mine k_all" => (first | assumption | exact ne_lt (by assumption) | exact ne_succ (by assumption) | exact ne_lt (allLt_mem (And.right (by assumption))) | exact ne_lt (allLt_mem (And.right (And.right (by assumption))))))
  (k_with "eval Call" => ((k_here; (with_reducible show wpAny _ _ (eval (Expr.Call (Expr.Name ("_law_value" : Str) _) _ _ _) _) _ _ _); k_dflt (refine Call_Name (by rfl) ?_))))
  (k_with "eval Call" => ((k_here; (with_reducible show wpAny _ _ (eval (Expr.Call (Expr.Name ("_law_octets" : Str) _) _ _ _) _) _ _ _); k_dflt (refine Call_Name (by rfl) ?_))))
  (k_with "eval Call" => ((k_here; (with_reducible show wpAny _ _ (eval (Expr.Call (Expr.Name ("compress_uint" : Str) _) _ _ _) _) _ _ _); k_dflt (refine Call_Name (by rfl) ?_))))
  (k_with "eval Call" => ((k_here; (with_reducible show wpAny _ _ (eval (Expr.Call (Expr.Name ("compress_int" : Str) _) _ _ _) _) _ _ _); k_dflt (refine Call_Name (by rfl) ?_))))
  (k_with "call ref" => ((k_here; (with_reducible show wpAny _ _ (call (Value.ref 257) [Value.int _ _]) _ _ _); k_dflt ((refine Pure.useR (by k_asm) (by k_asm) (by k_asm) (by k_asm) (by k_asm) (by first | exact rfl | assumption) (by ktr_room) (by ktr_units) (law_value_ok _ _ _ (by assumption)) ?_; k_whole; intro v' h' tk' R' F' N'; first | (obtain ⟨t', e'⟩ := R'; subst e') | (obtain ⟨z', hz', t', e'⟩ := R'; subst e') | subst R'; (try dsimp only); (try k_fold))); refine Halt.get ?_)))
  (k_with "call ref" => ((k_here; (with_reducible show wpAny _ _ (call (Value.ref 262) [Value.int _ _, Value.bool false]) _ _ _); k_dflt (first | (refine Pure.useR (by k_asm) (by k_asm) (by k_asm) (by k_asm) (by k_asm) (by first | exact rfl | assumption) (by ktr_room) (by ktr_units) (octets_in _ _ _ (by omega)) ?_; k_whole; intro v' h' tk' R' F' N'; first | (obtain ⟨t', e'⟩ := R'; subst e') | (obtain ⟨z', hz', t', e'⟩ := R'; subst e') | subst R'; (try dsimp only); (try k_fold)) | (refine Pure.useR (by k_asm) (by k_asm) (by k_asm) (by k_asm) (by k_asm) (by first | exact rfl | assumption) (by ktr_room) (by ktr_units) (oct_u_out _ _ _ (by assumption) (by omega)) ?_; k_whole; intro v' h' tk' R' F' N'; first | (obtain ⟨t', e'⟩ := R'; subst e') | (obtain ⟨z', hz', t', e'⟩ := R'; subst e') | subst R'; (try dsimp only); (try k_fold))))))
  (k_with "call ref" => ((k_here; (with_reducible show wpAny _ _ (call (Value.ref 262) [Value.int _ _, Value.bool true]) _ _ _); k_dflt (first | (refine Pure.useR (by k_asm) (by k_asm) (by k_asm) (by k_asm) (by k_asm) (by first | exact rfl | assumption) (by ktr_room) (by ktr_units) (oct_s_in _ _ _ (by omega)) ?_; k_whole; intro v' h' tk' R' F' N'; first | (obtain ⟨t', e'⟩ := R'; subst e') | (obtain ⟨z', hz', t', e'⟩ := R'; subst e') | subst R'; (try dsimp only); (try k_fold)) | (refine Pure.useR (by k_asm) (by k_asm) (by k_asm) (by k_asm) (by k_asm) (by first | exact rfl | assumption) (by ktr_room) (by ktr_units) (oct_s_out _ _ _ (by assumption) (by omega)) ?_; k_whole; intro v' h' tk' R' F' N'; first | (obtain ⟨t', e'⟩ := R'; subst e') | (obtain ⟨z', hz', t', e'⟩ := R'; subst e') | subst R'; (try dsimp only); (try k_fold))))))
  (k_with "call ref" => ((k_here; (with_reducible show wpAny _ _ (call (Value.ref 184) [Value.int _ _]) _ _ _); k_dflt (first
  | (refine' Call.useR (by k_asm) (by k_asm) (by k_asm) (by k_asm) (by k_asm) (by first | exact rfl | assumption) (by ktr_room) (by ktr_units) (comp_u_in _ _ _ _ (by omega)) ?_ ?_; rotate_left; (intro _ _ _ _ _ _ _ _ z'; exact z'.elim); rotate_right; (intro v' h' tk' nw' R' F' N'; obtain ⟨e0', ⟨t', e'⟩, hf'⟩ := R'; subst e0'; subst e'; (try dsimp only); (try k_fold)))
  | (refine' Call.useR (by k_asm) (by k_asm) (by k_asm) (by k_asm) (by k_asm) (by first | exact rfl | assumption) (by ktr_room) (by ktr_units) (comp_u_out _ _ _ _ (by omega)) ?_ ?_; (intro _ _ _ _ z'; exact z'.elim); (intro C' e' t' xs' h' tk' nw' g' Z' FG' R' U'; obtain ⟨e0', e1', hf'⟩ := Z'; subst e0'; subst e1'; (try dsimp only)))))))
  (k_with "call ref" => ((k_here; (with_reducible show wpAny _ _ (call (Value.ref 226) [Value.int _ _]) _ _ _); k_dflt (first
  | (refine' Call.useR (by k_asm) (by k_asm) (by k_asm) (by k_asm) (by k_asm) (by first | exact rfl | assumption) (by ktr_room) (by ktr_units) (comp_s_in _ _ _ _ (by omega)) ?_ ?_; rotate_left; (intro _ _ _ _ _ _ _ _ z'; exact z'.elim); rotate_right; (intro v' h' tk' nw' R' F' N'; obtain ⟨e0', ⟨t', e'⟩, hf'⟩ := R'; subst e0'; subst e'; (try dsimp only); (try k_fold)))
  | (refine' Call.useR (by k_asm) (by k_asm) (by k_asm) (by k_asm) (by k_asm) (by first | exact rfl | assumption) (by ktr_room) (by ktr_units) (comp_s_out _ _ _ _ (by omega)) ?_ ?_; (intro _ _ _ _ z'; exact z'.elim); (intro C' e' t' xs' h' tk' nw' g' Z' FG' R' U'; obtain ⟨e0', e1', hf'⟩ := Z'; subst e0'; subst e1'; (try dsimp only)))))))
  (k_with "binaryOp Add bytes bytes" => ((k_here; k_dflt (first
  | (refine' add_u (by assumption) (by (constructor <;> omega)) (by first | exact size_1 (by assumption) | exact size_2 (by assumption) (spread_le _ _)) ?_; intro _ _ kbaApp)
  | (refine' add_s (by assumption) (by (constructor <;> omega)) (by first | exact size_1 (by assumption) | exact size_2 (by assumption) (spread_le _ _)) ?_; intro _ _ kbaApp)))))
  (k_with "compareOp Eq bytes bytes" => ((k_here; refine eq_same ?_)))
  (k_with "call builtin:list.append" => ((k_here; (with_reducible show wpAny _ _ (call (Value.builtin _) [Value.ref _, _]) _ _ _); k_dflt (refine' append_K (by k_asm) (by k_asm) (by k_upd) ?_ (by (rw [PySem.sizeLine_eq]; first | (show (List.toArray _).size ≤ _; rw [List.size_toArray]; omega) | (rw [Array.size_push, List.size_toArray]; omega))); k_whole; intro h' F' N'; (try dsimp only at N')))))
  (k_with "newTuple" => ((k_here; (with_reducible show wpAny _ _ (newTuple [_, _, _]) _ _ _); k_dflt (refine new_want (by k_asm) (by k_asm) ?_); intro T9 h' l9 F' N')))
  (k_with "call builtin:list.append" => ((k_here; (with_reducible show wpAny _ _ (call (Value.builtin _) [Value.ref _, _]) _ _ _); k_dflt (refine app_want (by k_asm) (by k_asm) (by assumption) (by assumption) (by assumption) ?_); intro h' F' N')))
  (k_with "call builtin:len" => ((k_here; (with_reducible show wpAny _ _ (call (Value.builtin "len") [Value.bytes _ _]) _ _ _); refine len_app (by assumption) (by assumption) (spread_le _ _) ?_)))
  (k_with "binaryOp Add bytes bytes" => ((k_here; (with_reducible show wpAny _ _ (binaryOp Operator.Add (Value.bytes _ _) (Value.bytes (byteArr (spread _ _)) _)) _ _ _); k_dflt ((refine' add_u (by assumption) (by (constructor <;> omega)) (by exact size_1 (by assumption)) ?_; intro _ _ kbaApp)))))
  (k_with "binaryOp Add bytes bytes" => ((k_here; (with_reducible show wpAny _ _ (binaryOp Operator.Add (Value.bytes _ _) (Value.bytes (byteArr (spread (rot _) _)) _)) _ _ _); k_dflt ((refine' add_s (by assumption) (by (constructor <;> omega)) (by exact size_1 (by assumption)) ?_; intro _ _ kbaApp)))))
  trivial
theorem in_u1 {w : World} {base h₀ : Heap} {mean : ExcName → Option Value} {mg mb : Str → Option Value} (C : LawC w base h₀ mean mg mb) {cn : Str} {L a : Addr} {ccd : Value} {s : Shared} {Q : Flow → Shared → Prop} {Q₁ E₁ : Value → Shared → Prop}
    {z : Int} {tz t : Tok} {bb : Array UInt8} {ks : List Int} {W D : Addr} {script : Value} {u : Str → Option Value} {vals : List Value} {c : Nat} {rest : List (Addr × Obj)}
    (hn : -1073741824 ≤ z ∧ z ≤ 1073741824) (hz : 0 ≤ z ∧ z < 536870912) (hb : KBw.bInts bb = ks) (hk : ks.length ≤ 1000) (hv : vals.length ≤ 100) (off : ∀ p ∈ rest, p.1 ≠ W)
    (F : Fr h₀ L s.heap (fun y => if y = Str.ofString "signed" then some (.bool false) else mapV (.int z tz) (.bytes bb t) (.ref W) (.ref D) script u y))
    (N : News h₀ L s.heap ((W, PySem.W.listOf vals.toArray c) :: rest))
    (ret : ∀ h' tk' bb' t' T tv tp c' u', (∀ p ∈ (W, PySem.W.listOf vals.toArray c) :: rest, p.1 < T) → KBw.bInts bb' = ks ++ spread z (uw z) → Fr h₀ L h' (mapV (.int z tz) (.bytes bb' t') (.ref W) (.ref D) script u') →
      News h₀ L h' ((W, PySem.W.listOf (vals ++ [Value.ref T]).toArray c') :: (T, wantT (false, z) (KBw.bInts bb').length tv tp) :: rest) → Q .next { s with heap := h', toks := tk' }) :
    wpAny (model PySem.Challenge.rw_sa0222_01.row.prog w) (callerA.deeper (envOf cn fS31 L a ccd)) (execs bA2 (envOf cn fS31 L a ccd)) Q (lvE w cn L a ccd Q₁ E₁) s := by
  obtain ⟨B, X, T, XB, TB⟩ := C
  revert X
  k_fill
  intro X
  (try k_fold)
  k_steps
  rename Fr _ _ _ _ => kF
  refine' ret _ _ _ _ _ _ _ _ _ l9 kbaApp (fr_mapV kF ?a0 ?a1 ?a2 ?a3 ?a4 ?a5) N'
  case a2 => exact rfl
  all_goals exact rfl
theorem in_s1 {w : World} {base h₀ : Heap} {mean : ExcName → Option Value} {mg mb : Str → Option Value} (C : LawC w base h₀ mean mg mb) {cn : Str} {L a : Addr} {ccd : Value} {s : Shared} {Q : Flow → Shared → Prop} {Q₁ E₁ : Value → Shared → Prop}
    {z : Int} {tz t : Tok} {bb : Array UInt8} {ks : List Int} {W D : Addr} {script : Value} {u : Str → Option Value} {vals : List Value} {c : Nat} {rest : List (Addr × Obj)}
    (hn : -1073741824 ≤ z ∧ z ≤ 1073741824) (hz : -268435456 ≤ z ∧ z < 268435456) (hb : KBw.bInts bb = ks) (hk : ks.length ≤ 1000) (hv : vals.length ≤ 100) (off : ∀ p ∈ rest, p.1 ≠ W)
    (F : Fr h₀ L s.heap (fun y => if y = Str.ofString "signed" then some (.bool true) else mapV (.int z tz) (.bytes bb t) (.ref W) (.ref D) script u y))
    (N : News h₀ L s.heap ((W, PySem.W.listOf vals.toArray c) :: rest))
    (ret : ∀ h' tk' bb' t' T tv tp c' u', (∀ p ∈ (W, PySem.W.listOf vals.toArray c) :: rest, p.1 < T) → KBw.bInts bb' = ks ++ spread (rot z) (iw z) → Fr h₀ L h' (mapV (.int z tz) (.bytes bb' t') (.ref W) (.ref D) script u') →
      News h₀ L h' ((W, PySem.W.listOf (vals ++ [Value.ref T]).toArray c') :: (T, wantT (true, z) (KBw.bInts bb').length tv tp) :: rest) → Q .next { s with heap := h', toks := tk' }) :
    wpAny (model PySem.Challenge.rw_sa0222_01.row.prog w) (callerA.deeper (envOf cn fS31 L a ccd)) (execs bA2 (envOf cn fS31 L a ccd)) Q (lvE w cn L a ccd Q₁ E₁) s := by
  obtain ⟨B, X, T, XB, TB⟩ := C
  revert X
  k_fill
  intro X
  (try k_fold)
  k_steps
  rename Fr _ _ _ _ => kF
  refine' ret _ _ _ _ _ _ _ _ _ l9 kbaApp (fr_mapV kF ?a0 ?a1 ?a2 ?a3 ?a4 ?a5) N'
  case a2 => exact rfl
  all_goals exact rfl
theorem in_u0 {w : World} {base h₀ : Heap} {mean : ExcName → Option Value} {mg mb : Str → Option Value} (C : LawC w base h₀ mean mg mb) {cn : Str} {L a : Addr} {ccd : Value} {s : Shared} {Q : Flow → Shared → Prop} {Q₁ E₁ : Value → Shared → Prop}
    {z : Int} {tz t : Tok} {bb : Array UInt8} {ks : List Int} {W D : Addr} {script : Value} {u : Str → Option Value} {vals : List Value} {c : Nat} {rest : List (Addr × Obj)}
    (hn : -1073741824 ≤ z ∧ z ≤ 1073741824) (hz : ¬ (0 ≤ z ∧ z < 536870912)) (hb : KBw.bInts bb = ks) (hk : ks.length ≤ 1000) (hv : vals.length ≤ 100) (off : ∀ p ∈ rest, p.1 ≠ W)
    (F : Fr h₀ L s.heap (fun y => if y = Str.ofString "signed" then some (.bool false) else mapV (.int z tz) (.bytes bb t) (.ref W) (.ref D) script u y))
    (N : News h₀ L s.heap ((W, PySem.W.listOf vals.toArray c) :: rest))
    (ret : ∀ h' tk' t' u', Fr h₀ L h' (mapV (.int z tz) (.bytes bb t') (.ref W) (.ref D) script u') →
      News h₀ L h' ((W, PySem.W.listOf vals.toArray c) :: rest) → Q .next { s with heap := h', toks := tk' }) :
    wpAny (model PySem.Challenge.rw_sa0222_01.row.prog w) (callerA.deeper (envOf cn fS31 L a ccd)) (execs bA2 (envOf cn fS31 L a ccd)) Q (lvE w cn L a ccd Q₁ E₁) s := by
  obtain ⟨B, X, T, XB, TB⟩ := C
  have KD : KtsDicts ([] : List Addr) h₀ := ktsDicts_nil
  revert X
  k_fill
  intro X
  (try k_fold)
  k_steps
  rename Fr _ _ _ _ => kF
  rename News _ _ _ _ => kN
  rename KtsTurn _ _ _ => kT
  refine' ret _ _ _ _ (fr_mapV (fr_back kT kF) ?a0 ?a1 ?a2 ?a3 ?a4 ?a5) (news_back kT kN)
  case a2 => exact rfl
  all_goals exact rfl
theorem in_s0 {w : World} {base h₀ : Heap} {mean : ExcName → Option Value} {mg mb : Str → Option Value} (C : LawC w base h₀ mean mg mb) {cn : Str} {L a : Addr} {ccd : Value} {s : Shared} {Q : Flow → Shared → Prop} {Q₁ E₁ : Value → Shared → Prop}
    {z : Int} {tz t : Tok} {bb : Array UInt8} {ks : List Int} {W D : Addr} {script : Value} {u : Str → Option Value} {vals : List Value} {c : Nat} {rest : List (Addr × Obj)}
    (hn : -1073741824 ≤ z ∧ z ≤ 1073741824) (hz : ¬ (-268435456 ≤ z ∧ z < 268435456)) (hb : KBw.bInts bb = ks) (hk : ks.length ≤ 1000) (hv : vals.length ≤ 100) (off : ∀ p ∈ rest, p.1 ≠ W)
    (F : Fr h₀ L s.heap (fun y => if y = Str.ofString "signed" then some (.bool true) else mapV (.int z tz) (.bytes bb t) (.ref W) (.ref D) script u y))
    (N : News h₀ L s.heap ((W, PySem.W.listOf vals.toArray c) :: rest))
    (ret : ∀ h' tk' t' u', Fr h₀ L h' (mapV (.int z tz) (.bytes bb t') (.ref W) (.ref D) script u') →
      News h₀ L h' ((W, PySem.W.listOf vals.toArray c) :: rest) → Q .next { s with heap := h', toks := tk' }) :
    wpAny (model PySem.Challenge.rw_sa0222_01.row.prog w) (callerA.deeper (envOf cn fS31 L a ccd)) (execs bA2 (envOf cn fS31 L a ccd)) Q (lvE w cn L a ccd Q₁ E₁) s := by
  obtain ⟨B, X, T, XB, TB⟩ := C
  have KD : KtsDicts ([] : List Addr) h₀ := ktsDicts_nil
  revert X
  k_fill
  intro X
  (try k_fold)
  k_steps
  rename Fr _ _ _ _ => kF
  rename News _ _ _ _ => kN
  rename KtsTurn _ _ _ => kT
  refine' ret _ _ _ _ (fr_mapV (fr_back kT kF) ?a0 ?a1 ?a2 ?a3 ?a4 ?a5) (news_back kT kN)
  case a2 => exact rfl
  all_goals exact rfl

end
section
theorem Row.put {its : List (Bool × Int)} {bb dd : Array UInt8} {vals : List Value} {rest : List (Addr × Obj)} {W T : Addr} {q : Bool × Int} {tv tp : Tok} (R : Row its bb vals rest W) (hq : ItOk q) (hb : KBw.bInts dd = enc its ++ enc1 q) (hT : T ≠ W) :
    Row (its ++ [q]) dd (vals ++ [.ref T]) ((T, wantT q (KBw.bInts dd).length tv tp) :: rest) W := by
  have hb' : KBw.bInts dd = enc (its ++ [q]) := by rw [hb, enc_app, enc_one]
  refine ⟨fun p hp => ?_, hb', by rw [List.length_append, List.length_append, R.len]; rfl, fun j p hj => ?_, fun p hp => ?_⟩
  · rcases List.mem_append.mp hp with hp | hp
    · exact R.ok p hp
    · rw [List.mem_singleton.mp hp]; exact hq
  · by_cases h : j < its.length
    · rw [List.getElem?_append_left h] at hj
      obtain ⟨T', tv', tp', h1, h2⟩ := R.got j p hj
      refine ⟨T', tv', tp', ?_, .tail _ ?_⟩
      · rw [List.getElem?_append_left (by rw [R.len]; exact h)]; exact h1
      · rw [List.take_append_of_le_length (Nat.succ_le_of_lt h)]; exact h2
    · have hj' : j < (its ++ [q]).length := (List.getElem?_eq_some_iff.mp hj).1
      rw [List.length_append, List.length_singleton] at hj'
      obtain rfl : j = its.length := by omega
      rw [List.getElem?_append_right (Nat.le_refl _), Nat.sub_self] at hj
      obtain rfl : q = p := by simpa using hj
      refine ⟨T, tv, tp, ?_, ?_⟩
      · rw [← R.len, List.getElem?_append_right (Nat.le_refl _), Nat.sub_self]; rfl
      · rw [hb', List.take_of_length_le (by rw [List.length_append]; exact Nat.le_refl _)]; exact .head _
  · rcases List.mem_cons.mp hp with rfl | hp
    · exact hT
    · exact R.off p hp
theorem Row.small {its : List (Bool × Int)} {bb : Array UInt8} {vals : List Value} {rest : List (Addr × Obj)} {W : Addr} (R : Row its bb vals rest W) (h : its.length ≤ 40) : (enc its).length ≤ 1000 ∧ vals.length ≤ 100 := by
  have := enc_len its
  have := R.len
  omega
/-- what holds at the turns of the loop over the two signs -/
def JI (W D : Addr) (ex rest0 : List (Addr × Obj)) (z : Int) (tz : Tok) (script : Value) (n0 : Nat) (i : Nat) (m : Str → Option Value) (news : List (Addr × Obj)) : Prop :=
  ∃ its bb t vals c tl u, its.length ≤ n0 + i ∧ Row its bb vals (tl ++ rest0) W ∧ (∀ p ∈ tl, ∀ q ∈ ex ++ rest0, q.1 < p.1) ∧ m = mapV (.int z tz) (.bytes bb t) (.ref W) (.ref D) script u ∧ news = (W, PySem.W.listOf vals.toArray c) :: (ex ++ (tl ++ rest0))
section
variable {h₀ h h' : Heap} {L I l W D T : Addr} {oI : Obj} {xs : List Value} {ex rest0 tl : List (Addr × Obj)} {its : List (Bool × Int)} {bb bb2 : Array UInt8} {vals : List Value} {c c2 : Nat} {z : Int} {tz t2 tv tp : Tok} {script : Value} {u2 : Str → Option Value} {n0 i : Nat} {q : Bool × Int} {s₁ : Shared} {tk : Nat}
theorem news_w1 (N : News h₀ L h ((I, oI) :: (l, ({ cls := .type "tuple", data := .seq xs.toArray } : Obj)) :: (W, PySem.W.listOf vals.toArray c) :: (ex ++ (tl ++ rest0)))) :
    News h₀ L h ((W, PySem.W.listOf vals.toArray c) :: ((I, oI) :: (l, ({ cls := .type "tuple", data := .seq xs.toArray } : Obj)) :: (ex ++ (tl ++ rest0)))) := News.sub N fun p hp => by
  rcases List.mem_cons.mp hp with rfl | hp
  · exact .tail _ (.tail _ (.head _))
  rcases List.mem_cons.mp hp with rfl | hp
  · exact .head _
  rcases List.mem_cons.mp hp with rfl | hp
  · exact .tail _ (.head _)
  · exact .tail _ (.tail _ (.tail _ hp))
theorem off_w1 (N : News h₀ L h ((I, oI) :: (l, ({ cls := .type "tuple", data := .seq xs.toArray } : Obj)) :: (W, PySem.W.listOf vals.toArray c) :: (ex ++ (tl ++ rest0)))) (hoff : ∀ p ∈ (W, PySem.W.listOf vals.toArray c) :: (ex ++ (tl ++ rest0)), p.1 ≠ I) (offx : ∀ p ∈ ex, p.1 ≠ W) (R : Row its bb vals (tl ++ rest0) W) :
    ∀ p ∈ (I, oI) :: (l, ({ cls := .type "tuple", data := .seq xs.toArray } : Obj)) :: (ex ++ (tl ++ rest0)), p.1 ≠ W := fun p hp => by
  rcases List.mem_cons.mp hp with rfl | hp
  · exact fun e => hoff (W, _) (.head _) e.symm
  rcases List.mem_cons.mp hp with rfl | hp
  · intro e
    have h1 := (N _ (.tail _ (.head _))).1
    have h2 := (N _ (.tail _ (.tail _ (.head _)))).1
    have e' : l = W := e
    rw [e'] at h1
    have := h1.symm.trans h2
    exact absurd (congrArg (fun o : Option Obj => o.map (·.cls)) this) (by simp)
  rcases List.mem_append.mp hp with hp | hp
  · exact offx p hp
  · exact R.off p hp
theorem put_end (R : Row its bb vals (tl ++ rest0) W) (hfr : ∀ p ∈ tl, ∀ q ∈ ex ++ rest0, q.1 < p.1) (hoff : ∀ p ∈ (W, PySem.W.listOf vals.toArray c) :: (ex ++ (tl ++ rest0)), p.1 ≠ I) (hlen : its.length ≤ n0 + i)
    (hT : ∀ p ∈ (W, PySem.W.listOf vals.toArray c) :: ((I, oI) :: (l, ({ cls := .type "tuple", data := .seq xs.toArray } : Obj)) :: (ex ++ (tl ++ rest0))), p.1 < T) (hq : ItOk q) (hb : KBw.bInts bb2 = enc its ++ enc1 q)
    (F : Fr h₀ L h' (mapV (.int z tz) (.bytes bb2 t2) (.ref W) (.ref D) script u2))
    (N : News h₀ L h' ((W, PySem.W.listOf (vals ++ [Value.ref T]).toArray c2) :: (T, wantT q (KBw.bInts bb2).length tv tp) :: ((I, oI) :: (l, ({ cls := .type "tuple", data := .seq xs.toArray } : Obj)) :: (ex ++ (tl ++ rest0))))) :
    TurnP h₀ L I oI (l, { cls := .type "tuple", data := .seq xs.toArray }) (JI W D ex rest0 z tz script n0 (i + 1)) s₁ .next { s₁ with heap := h', toks := tk } := by
  refine TurnP.intro (news' := (W, PySem.W.listOf (vals ++ [Value.ref T]).toArray c2) :: (ex ++ (((T, wantT q (KBw.bInts bb2).length tv tp) :: tl) ++ rest0))) F (News.sub N fun p hp => ?_) (fun p hp => ?_) ?_
  · rcases List.mem_cons.mp hp with rfl | hp
    · exact .tail _ (.tail _ (.head _))
    rcases List.mem_cons.mp hp with rfl | hp
    · exact .tail _ (.tail _ (.tail _ (.head _)))
    rcases List.mem_cons.mp hp with rfl | hp
    · exact .head _
    rcases List.mem_append.mp hp with hp | hp
    · exact .tail _ (.tail _ (.tail _ (.tail _ (List.mem_append_left _ hp))))
    rcases List.mem_cons.mp hp with rfl | hp
    · exact .tail _ (.head _)
    · exact .tail _ (.tail _ (.tail _ (.tail _ (List.mem_append_right _ hp))))
  · have hI := hT (I, oI) (.tail _ (.head _))
    rcases List.mem_cons.mp hp with rfl | hp
    · exact hoff (W, PySem.W.listOf vals.toArray c) (.head _)
    rcases List.mem_append.mp hp with hp | hp
    · exact hoff p (.tail _ (List.mem_append_left _ hp))
    rcases List.mem_cons.mp hp with rfl | hp
    · exact Nat.ne_of_gt hI
    · exact hoff p (.tail _ (List.mem_append_right _ hp))
  · refine ⟨its ++ [q], bb2, t2, vals ++ [Value.ref T], c2, (T, wantT q (KBw.bInts bb2).length tv tp) :: tl, u2, ?_, R.put hq hb (Nat.ne_of_gt (hT _ (.head _))), fun p hp r hr => ?_, rfl, rfl⟩
    · rw [List.length_append, List.length_singleton]; omega
    · rcases List.mem_cons.mp hp with rfl | hp
      · rcases List.mem_append.mp hr with hr | hr
        · exact hT r (.tail _ (.tail _ (.tail _ (List.mem_append_left _ hr))))
        · exact hT r (.tail _ (.tail _ (.tail _ (List.mem_append_right _ (List.mem_append_right _ hr)))))
      · exact hfr p hp r hr
theorem skip_end {t : Tok} (R : Row its bb vals (tl ++ rest0) W) (hfr : ∀ p ∈ tl, ∀ q ∈ ex ++ rest0, q.1 < p.1) (hoff : ∀ p ∈ (W, PySem.W.listOf vals.toArray c) :: (ex ++ (tl ++ rest0)), p.1 ≠ I) (hlen : its.length ≤ n0 + i)
    (F : Fr h₀ L h' (mapV (.int z tz) (.bytes bb t) (.ref W) (.ref D) script u2))
    (N : News h₀ L h' ((W, PySem.W.listOf vals.toArray c) :: ((I, oI) :: (l, ({ cls := .type "tuple", data := .seq xs.toArray } : Obj)) :: (ex ++ (tl ++ rest0))))) :
    TurnP h₀ L I oI (l, { cls := .type "tuple", data := .seq xs.toArray }) (JI W D ex rest0 z tz script n0 (i + 1)) s₁ .next { s₁ with heap := h', toks := tk } := by
  refine TurnP.intro (news' := (W, PySem.W.listOf vals.toArray c) :: (ex ++ (tl ++ rest0))) F (News.sub N fun p hp => ?_) hoff ⟨its, bb, t, vals, c, tl, u2, by omega, R, hfr, rfl, rfl⟩
  rcases List.mem_cons.mp hp with rfl | hp
  · exact .tail _ (.head _)
  rcases List.mem_cons.mp hp with rfl | hp
  · exact .tail _ (.tail _ (.head _))
  rcases List.mem_cons.mp hp with rfl | hp
  · exact .head _
  · exact .tail _ (.tail _ (.tail _ hp))
end

theorem w36 : True := by
  k_with_none
  (k_with "call ref" => ((k_here; refine wpAny_call ?_; k_dflt (walk_at "mine enterF"))))
  (k_with "call type:bytes" => ((k_here; (with_reducible show wpAny _ _ (call (Value.type "bytes") [Value.ref _]) _ _ _); k_dflt (refine' Mine.call_bytes_tuple (by k_asm) (by k_asm) (by rfl) (by exact News.isTup (by k_asm) (by k_mem)) (by kba_listInts) ?_ (by kba_size) ?_; rotate_left); intro _ _ _ F' N' kbaIn)))
  (k_with "exec Raise some none" => ((k_here; (with_reducible show wpAny _ _ (exec (Stmt.Raise (some (Expr.Call (Expr.Name ("BadSig" : Str) _) _ _ _)) none _) _) _ _ _); k_dflt (refine Raise_own (C := 63) rfl ?_))))
  (k_with "exec Raise some none" => ((k_here; (with_reducible show wpAny _ _ (exec (Stmt.Raise (some (Expr.Call (Expr.Name ("BadImage" : Str) _) _ _ _)) none _) _) _ _ _); k_dflt (refine Raise_own (C := 51) rfl ?_))))
  (k_with "call ref" => ((k_here; (with_reducible show wpAny _ _ (call (Value.ref _) [_, _]) (RaisableX _ _) _ _); k_dflt (refine' raise_call _ _ _ _ (by first | exact excC_63 _ | exact excC_51 _) (by k_asm) (by k_asm) (by k_asm) (by k_asm) (by k_asm) (by exact rfl) (by ktr_room) (by ktr_units) ?_; k_whole; intro h' tk' e' t' d' F' N' hne' hnt'; (try dsimp only)))))
  (k_with "leaving ref" => ((k_here; first
  | (refine' leave_mine (by assumption) (by assumption) (by assumption) (by assumption) (by assumption) ?_; k_whole; intro h' R' U'; (try dsimp only))
  | (refine' leave_onS (by assumption) (by assumption) (by assumption) (by assumption) ?_; k_whole; intro h' R' RK' U'; (try dsimp only)))))
  (k_with "binaryOp Pow int int" => ((k_here; dsimp only; walk_at "binaryOp Pow int int")))
  (k_with "mine k_all" => (first | assumption | exact ne_lt (by assumption) | exact ne_succ (by assumption) | exact ne_lt (allLt_mem (And.right (by assumption))) | exact ne_lt (allLt_mem (And.right (And.right (by assumption))))))
  (k_with "exec For Name Tuple" => ((k_here; (with_reducible show wpAny _ _ (exec (Stmt.For (Expr.Name ("signed" : Str) _) _ _ [] _) _) _ _ _); (rename Fr _ _ _ _ => lF'); (with_unfolding_all refine' For_invVF lF' (by exact rfl) (by exact rfl) ?_; k_whole))))
  (k_with "pyIter ref" => ((k_here; (with_reducible show wpAny _ _ (pyIter (Value.ref _)) (fun it s₂ => LoopAtV _ _ _ _ _ ("signed" : Str) _ _ _ it s₂) _ _); refine Halt.get ?_)))
  trivial
theorem seg_A2 {w : World} {base h₀ : Heap} {mean : ExcName → Option Value} {mg mb : Str → Option Value} (C : LawC w base h₀ mean mg mb) {cn : Str} {L a : Addr} {ccd : Value} {s : Shared} {Q : Flow → Shared → Prop} {Q₁ E₁ : Value → Shared → Prop}
    {z : Int} {tz t : Tok} {bb : Array UInt8} {W D : Addr} {script : Value} {u : Str → Option Value} {vals : List Value} {c : Nat} {ex rest0 : List (Addr × Obj)} {its : List (Bool × Int)}
    (hn : -1073741824 ≤ z ∧ z ≤ 1073741824) (R : Row its bb vals rest0 W) (hl : its.length ≤ 28) (offx : ∀ p ∈ ex, p.1 ≠ W)
    (F : Fr h₀ L s.heap (mapV (.int z tz) (.bytes bb t) (.ref W) (.ref D) script u))
    (N : News h₀ L s.heap ((W, PySem.W.listOf vals.toArray c) :: (ex ++ rest0)))
    (ret : ∀ h' tk' its' bb' t' vals' c' tl u', its'.length ≤ its.length + 2 → Row its' bb' vals' (tl ++ rest0) W → (∀ p ∈ tl, ∀ q ∈ ex ++ rest0, q.1 < p.1) → Fr h₀ L h' (mapV (.int z tz) (.bytes bb' t') (.ref W) (.ref D) script u') →
      News h₀ L h' ((W, PySem.W.listOf vals'.toArray c') :: (ex ++ (tl ++ rest0))) → Q .next { s with heap := h', toks := tk' }) :
    wpAny (model PySem.Challenge.rw_sa0222_01.row.prog w) (callerA.deeper (envOf cn fS31 L a ccd)) (exec sA2 (envOf cn fS31 L a ccd)) Q (lvE w cn L a ccd Q₁ E₁) s := by
  have C' := C
  obtain ⟨B, X, T, XB, TB⟩ := C'
  revert X
  k_fill
  intro X
  k_steps
  refine Halt.mk ?_
  rename News _ _ _ _ => kN
  rename Fr _ _ _ _ => kF
  refine' iter_tup (JI W D ex rest0 z tz script its.length) rfl ?hlt kF kN ⟨its, bb, t, vals, c, [], u, Nat.le_refl _, R, (fun p hp => nomatch hp), rfl, rfl⟩ ?_ ?_
  case hlt => exact ⟨_, (kN _ (.head _)).1, rfl, _, rfl⟩
  · rintro i v m₁ news₁ h tk I oI hv hi ⟨its', bb', t', vals', c', tl, u', hl', R', hfr, rfl, rfl⟩ hoff hne F₁ N₁
    have hi2 : i < 2 := hi
    obtain ⟨hz1, hz2⟩ := R'.small (by omega)
    have hoffW := off_w1 N₁ hoff offx R'
    have N₂ := news_w1 N₁
    have hl2 : its'.length ≤ its.length + i := hl'
    obtain rfl | rfl : i = 0 ∨ i = 1 := by omega
    · obtain rfl : v = .bool false := by simpa using hv.symm
      by_cases hz : 0 ≤ z ∧ z < 536870912
      · exact in_u1 C hn hz R'.hi hz1 hz2 hoffW F₁ N₂ fun h' tk' bb2 t2 T tv tp c2 u2 hT hb F2 N2 => put_end R' hfr hoff hl2 hT (q := (false, z)) hz hb F2 N2
      · exact in_u0 C hn hz R'.hi hz1 hz2 hoffW F₁ N₂ fun h' tk' t2 u2 F2 N2 => skip_end R' hfr hoff hl2 F2 N2
    · obtain rfl : v = .bool true := by simpa using hv.symm
      by_cases hz : -268435456 ≤ z ∧ z < 268435456
      · exact in_s1 C hn hz R'.hi hz1 hz2 hoffW F₁ N₂ fun h' tk' bb2 t2 T tv tp c2 u2 hT hb F2 N2 => put_end R' hfr hoff hl2 hT (q := (true, z)) hz hb F2 N2
      · exact in_s0 C hn hz R'.hi hz1 hz2 hoffW F₁ N₂ fun h' tk' t2 u2 F2 N2 => skip_end R' hfr hoff hl2 F2 N2
  · rintro m₁ news₁ h tk ⟨its', bb', t', vals', c', tl, u', hl', R', hfr, rfl, rfl⟩ F₁ N₁
    exact ret _ _ _ _ _ _ _ _ _ hl' R' hfr F₁ (News.sub N₁ fun p hp => .tail _ hp)

end
section


/-- what holds at the turns of the first loop -/
theorem w37 : True := by
  k_with_none
  (k_with "call ref" => ((k_here; refine wpAny_call ?_; k_dflt (walk_at "mine enterF"))))
  (k_with "call type:bytes" => ((k_here; (with_reducible show wpAny _ _ (call (Value.type "bytes") [Value.ref _]) _ _ _); k_dflt (refine' Mine.call_bytes_tuple (by k_asm) (by k_asm) (by rfl) (by exact News.isTup (by k_asm) (by k_mem)) (by kba_listInts) ?_ (by kba_size) ?_; rotate_left); intro _ _ _ F' N' kbaIn)))
  (k_with "exec Raise some none" => ((k_here; (with_reducible show wpAny _ _ (exec (Stmt.Raise (some (Expr.Call (Expr.Name ("BadSig" : Str) _) _ _ _)) none _) _) _ _ _); k_dflt (refine Raise_own (C := 63) rfl ?_))))
  (k_with "exec Raise some none" => ((k_here; (with_reducible show wpAny _ _ (exec (Stmt.Raise (some (Expr.Call (Expr.Name ("BadImage" : Str) _) _ _ _)) none _) _) _ _ _); k_dflt (refine Raise_own (C := 51) rfl ?_))))
  (k_with "call ref" => ((k_here; (with_reducible show wpAny _ _ (call (Value.ref _) [_, _]) (RaisableX _ _) _ _); k_dflt (refine' raise_call _ _ _ _ (by first | exact excC_63 _ | exact excC_51 _) (by k_asm) (by k_asm) (by k_asm) (by k_asm) (by k_asm) (by exact rfl) (by ktr_room) (by ktr_units) ?_; k_whole; intro h' tk' e' t' d' F' N' hne' hnt'; (try dsimp only)))))
  (k_with "leaving ref" => ((k_here; first
  | (refine' leave_mine (by assumption) (by assumption) (by assumption) (by assumption) (by assumption) ?_; k_whole; intro h' R' U'; (try dsimp only))
  | (refine' leave_onS (by assumption) (by assumption) (by assumption) (by assumption) ?_; k_whole; intro h' R' RK' U'; (try dsimp only)))))
  (k_with "binaryOp Pow int int" => ((k_here; dsimp only; walk_at "binaryOp Pow int int")))
  (k_with "mine k_all" => (first | assumption | exact ne_lt (by assumption) | exact ne_succ (by assumption) | exact ne_lt (allLt_mem (And.right (by assumption))) | exact ne_lt (allLt_mem (And.right (And.right (by assumption))))))
  (k_with "eval Call" => ((k_here; (with_reducible show wpAny _ _ (eval (Expr.Call (Expr.Name ("_law_value" : Str) _) _ _ _) _) _ _ _); k_dflt (refine Call_Name (by rfl) ?_))))
  (k_with "eval Call" => ((k_here; (with_reducible show wpAny _ _ (eval (Expr.Call (Expr.Name ("_law_octets" : Str) _) _ _ _) _) _ _ _); k_dflt (refine Call_Name (by rfl) ?_))))
  (k_with "eval Call" => ((k_here; (with_reducible show wpAny _ _ (eval (Expr.Call (Expr.Name ("compress_uint" : Str) _) _ _ _) _) _ _ _); k_dflt (refine Call_Name (by rfl) ?_))))
  (k_with "eval Call" => ((k_here; (with_reducible show wpAny _ _ (eval (Expr.Call (Expr.Name ("compress_int" : Str) _) _ _ _) _) _ _ _); k_dflt (refine Call_Name (by rfl) ?_))))
  (k_with "call ref" => ((k_here; (with_reducible show wpAny _ _ (call (Value.ref 257) [Value.int _ _]) _ _ _); k_dflt ((refine Pure.useR (by k_asm) (by k_asm) (by k_asm) (by k_asm) (by k_asm) (by first | exact rfl | assumption) (by ktr_room) (by ktr_units) (law_value_ok _ _ _ (by assumption)) ?_; k_whole; intro v' h' tk' R' F' N'; first | (obtain ⟨t', e'⟩ := R'; subst e') | (obtain ⟨z', hz', t', e'⟩ := R'; subst e') | subst R'; (try dsimp only); (try k_fold))); refine Halt.get ?_)))
  (k_with "call ref" => ((k_here; (with_reducible show wpAny _ _ (call (Value.ref 262) [Value.int _ _, Value.bool false]) _ _ _); k_dflt (first | (refine Pure.useR (by k_asm) (by k_asm) (by k_asm) (by k_asm) (by k_asm) (by first | exact rfl | assumption) (by ktr_room) (by ktr_units) (octets_in _ _ _ (by omega)) ?_; k_whole; intro v' h' tk' R' F' N'; first | (obtain ⟨t', e'⟩ := R'; subst e') | (obtain ⟨z', hz', t', e'⟩ := R'; subst e') | subst R'; (try dsimp only); (try k_fold)) | (refine Pure.useR (by k_asm) (by k_asm) (by k_asm) (by k_asm) (by k_asm) (by first | exact rfl | assumption) (by ktr_room) (by ktr_units) (oct_u_out _ _ _ (by assumption) (by omega)) ?_; k_whole; intro v' h' tk' R' F' N'; first | (obtain ⟨t', e'⟩ := R'; subst e') | (obtain ⟨z', hz', t', e'⟩ := R'; subst e') | subst R'; (try dsimp only); (try k_fold))))))
  (k_with "call ref" => ((k_here; (with_reducible show wpAny _ _ (call (Value.ref 262) [Value.int _ _, Value.bool true]) _ _ _); k_dflt (first | (refine Pure.useR (by k_asm) (by k_asm) (by k_asm) (by k_asm) (by k_asm) (by first | exact rfl | assumption) (by ktr_room) (by ktr_units) (oct_s_in _ _ _ (by omega)) ?_; k_whole; intro v' h' tk' R' F' N'; first | (obtain ⟨t', e'⟩ := R'; subst e') | (obtain ⟨z', hz', t', e'⟩ := R'; subst e') | subst R'; (try dsimp only); (try k_fold)) | (refine Pure.useR (by k_asm) (by k_asm) (by k_asm) (by k_asm) (by k_asm) (by first | exact rfl | assumption) (by ktr_room) (by ktr_units) (oct_s_out _ _ _ (by assumption) (by omega)) ?_; k_whole; intro v' h' tk' R' F' N'; first | (obtain ⟨t', e'⟩ := R'; subst e') | (obtain ⟨z', hz', t', e'⟩ := R'; subst e') | subst R'; (try dsimp only); (try k_fold))))))
  (k_with "call ref" => ((k_here; (with_reducible show wpAny _ _ (call (Value.ref 184) [Value.int _ _]) _ _ _); k_dflt (first
  | (refine' Call.useR (by k_asm) (by k_asm) (by k_asm) (by k_asm) (by k_asm) (by first | exact rfl | assumption) (by ktr_room) (by ktr_units) (comp_u_in _ _ _ _ (by omega)) ?_ ?_; rotate_left; (intro _ _ _ _ _ _ _ _ z'; exact z'.elim); rotate_right; (intro v' h' tk' nw' R' F' N'; obtain ⟨e0', ⟨t', e'⟩, hf'⟩ := R'; subst e0'; subst e'; (try dsimp only); (try k_fold)))
  | (refine' Call.useR (by k_asm) (by k_asm) (by k_asm) (by k_asm) (by k_asm) (by first | exact rfl | assumption) (by ktr_room) (by ktr_units) (comp_u_out _ _ _ _ (by omega)) ?_ ?_; (intro _ _ _ _ z'; exact z'.elim); (intro C' e' t' xs' h' tk' nw' g' Z' FG' R' U'; obtain ⟨e0', e1', hf'⟩ := Z'; subst e0'; subst e1'; (try dsimp only)))))))
  (k_with "call ref" => ((k_here; (with_reducible show wpAny _ _ (call (Value.ref 226) [Value.int _ _]) _ _ _); k_dflt (first
  | (refine' Call.useR (by k_asm) (by k_asm) (by k_asm) (by k_asm) (by k_asm) (by first | exact rfl | assumption) (by ktr_room) (by ktr_units) (comp_s_in _ _ _ _ (by omega)) ?_ ?_; rotate_left; (intro _ _ _ _ _ _ _ _ z'; exact z'.elim); rotate_right; (intro v' h' tk' nw' R' F' N'; obtain ⟨e0', ⟨t', e'⟩, hf'⟩ := R'; subst e0'; subst e'; (try dsimp only); (try k_fold)))
  | (refine' Call.useR (by k_asm) (by k_asm) (by k_asm) (by k_asm) (by k_asm) (by first | exact rfl | assumption) (by ktr_room) (by ktr_units) (comp_s_out _ _ _ _ (by omega)) ?_ ?_; (intro _ _ _ _ z'; exact z'.elim); (intro C' e' t' xs' h' tk' nw' g' Z' FG' R' U'; obtain ⟨e0', e1', hf'⟩ := Z'; subst e0'; subst e1'; (try dsimp only)))))))
  (k_with "binaryOp Add bytes bytes" => ((k_here; k_dflt (first
  | (refine' add_u (by assumption) (by (constructor <;> omega)) (by first | exact size_1 (by assumption) | exact size_2 (by assumption) (spread_le _ _)) ?_; intro _ _ kbaApp)
  | (refine' add_s (by assumption) (by (constructor <;> omega)) (by first | exact size_1 (by assumption) | exact size_2 (by assumption) (spread_le _ _)) ?_; intro _ _ kbaApp)))))
  (k_with "compareOp Eq bytes bytes" => ((k_here; refine eq_same ?_)))
  (k_with "call builtin:list.append" => ((k_here; (with_reducible show wpAny _ _ (call (Value.builtin _) [Value.ref _, _]) _ _ _); k_dflt (refine' append_K (by k_asm) (by k_asm) (by k_upd) ?_ (by (rw [PySem.sizeLine_eq]; first | (show (List.toArray _).size ≤ _; rw [List.size_toArray]; omega) | (rw [Array.size_push, List.size_toArray]; omega))); k_whole; intro h' F' N'; (try dsimp only at N')))))
  (k_with "exec For" => ((k_here; (with_reducible show wpAny _ _ (exec (Stmt.For (Expr.Name ("n" : Str) _) _ _ [] _) _) _ _ _); (rename Fr _ _ _ _ => lF'); (with_unfolding_all refine' For_invVF lF' (by exact rfl) (by exact rfl) ?_; k_whole))))
  (k_with "pyIter ref" => ((k_here; (with_reducible show wpAny _ _ (pyIter (Value.ref _)) (fun it s₂ => LoopAtV _ _ _ _ _ ("n" : Str) _ _ _ it s₂) _ _); refine Halt.get ?_)))
  (k_with "exec For Name Tuple" => ((k_here; (with_reducible show wpAny _ _ (exec (Stmt.For (Expr.Name ("signed" : Str) _) _ _ [] _) _) _ _ _); refine Halt.get ?_)))
  (k_with "exec For Name Tuple cons nil" => ((k_here; (with_reducible show wpAny _ _ (exec (Stmt.For (Expr.Name ("signed" : Str) _) _ _ [] _) _) _ _ _); refine Halt.get ?_)))
  (k_with "call ref" => ((k_here; (with_reducible show wpAny _ _ (call (Value.ref 257) [Value.int _ _]) _ _ _); k_dflt ((refine Pure.useR (by k_asm) (by k_asm) (by k_asm) (by k_asm) (by k_asm) (by first | exact rfl | assumption) (by ktr_room) (by ktr_units) (law_value_ok _ _ _ (by assumption)) ?_; k_whole; intro v' h' tk' R' F' N'; first | (obtain ⟨t', e'⟩ := R'; subst e') | (obtain ⟨z', hz', t', e'⟩ := R'; subst e') | subst R'; (try dsimp only); (try k_fold))))))
  trivial
def JO (Wa D : Addr) (R0 : List (Addr × Obj)) (script : Value) (i : Nat) (m : Str → Option Value) (news : List (Addr × Obj)) : Prop :=
  ∃ its bb t vals c tl u, its.length ≤ 2 * i ∧ Row its bb vals (tl ++ R0) Wa ∧ m = mapA (.bytes bb t) (.ref Wa) (.ref D) script u ∧ news = (Wa, PySem.W.listOf vals.toArray c) :: (tl ++ R0)
theorem seg_A {w : World} {base h₀ : Heap} {mean : ExcName → Option Value} {mg mb : Str → Option Value} (C : LawC w base h₀ mean mg mb) {cn : Str} {L a : Addr} {ccd : Value} {s : Shared} {Q : Flow → Shared → Prop} {Q₁ E₁ : Value → Shared → Prop}
    {bt : Tok} {Wa D : Addr} {script : Value} {u : Str → Option Value} {ys : List Value} {zs : List Int} {rest0 : List (Addr × Obj)}
    (hy : IntsAre ys zs) (hz : ∀ n ∈ zs, 0 ≤ n ∧ n < 1099511627776) (hlen : zs.length ≤ 14) (hne : D ≠ Wa) (off0 : ∀ p ∈ rest0, p.1 ≠ Wa)
    (F : Fr h₀ L s.heap (mapA (.bytes #[] bt) (.ref Wa) (.ref D) script u))
    (N : News h₀ L s.heap ((Wa, PySem.W.listOf #[] 0) :: (D, LCg.lst ys) :: rest0))
    (ret : ∀ h' tk' its bb t vals c tl u', its.length ≤ 30 → Row its bb vals (tl ++ (D, LCg.lst ys) :: rest0) Wa → Fr h₀ L h' (mapA (.bytes bb t) (.ref Wa) (.ref D) script u') →
      News h₀ L h' ((Wa, PySem.W.listOf vals.toArray c) :: (tl ++ (D, LCg.lst ys) :: rest0)) → Q .next { s with heap := h', toks := tk' }) :
    wpAny (model PySem.Challenge.rw_sa0222_01.row.prog w) (callerA.deeper (envOf cn fS31 L a ccd)) (exec sA (envOf cn fS31 L a ccd)) Q (lvE w cn L a ccd Q₁ E₁) s := by
  have C' := C
  obtain ⟨B, X, T, XB, TB⟩ := C'
  have hyl := hy.length
  revert X
  k_fill
  intro X
  k_steps
  refine Halt.mk ?_
  rename News _ _ _ _ => kN
  rename Fr _ _ _ _ => kF
  rename IntsAre _ _ => hI
  rename _ ∧ _ => l1
  have hDW := Nat.ne_of_gt l1.2.1
  have hR0 : ∀ p ∈ (D, LCg.lst ys) :: rest0, p.1 ≠ Wa := fun p hp => by
    rcases List.mem_cons.mp hp with rfl | hp
    · exact hne
    · exact off0 p hp
  have kN2 := News.sub kN (l' := _ :: (Wa, PySem.W.listOf #[] 0) :: (D, LCg.lst ys) :: rest0) (fun p hp => by
    rcases List.mem_cons.mp hp with rfl | hp
    · exact .head _
    · exact .tail _ (.tail _ hp))
  have hwl := hI.length
  rw [List.length_append, List.length_singleton] at hwl
  refine iter_own (JO Wa D ((D, LCg.lst ys) :: rest0) script) rfl (News.isList kN2 (.head _)) kF kN2 ⟨[], #[], bt, [], 0, [], u, Nat.le_refl _, Row.nil hR0, rfl, rfl⟩ ?_ ?_
  · rintro i v m₁ news₁ h tk I oI hv hlt ⟨its, bb, t, vals, c, tl, u₁, hl, R, rfl, rfl⟩ hoff hDI F₁ N₁
    obtain ⟨n, t', hn, rfl⟩ : ∃ n t', (0 ≤ n ∧ n < 1099511627776) ∧ v = .int n t' := by
      have hlt' : i < ([(zs.length : Int)] ++ zs).length := by rw [List.length_append, List.length_singleton]; omega
      obtain ⟨t', e⟩ := hI.get i ([(zs.length : Int)] ++ zs)[i] (by simp [hlt'])
      rw [e] at hv
      refine ⟨_, t', ?_, (Option.some.inj hv).symm⟩
      rcases List.mem_append.mp (List.getElem_mem hlt') with h | h
      · rw [List.mem_singleton.mp h]; omega
      · exact hz _ h
    k_steps
    refine Halt.mk ?_
    rename News _ _ _ _ => kN3
    rename Fr _ _ _ _ => kF3
    have N3 := News.sub kN3 (l' := (Wa, PySem.W.listOf vals.toArray c) :: ([(I, oI), _] ++ (tl ++ (D, LCg.lst ys) :: rest0))) (fun p hp => by
      rcases List.mem_cons.mp hp with rfl | hp
      · exact .tail _ (.tail _ (.head _))
      rcases List.mem_cons.mp hp with rfl | hp
      · exact .head _
      rcases List.mem_cons.mp hp with rfl | hp
      · exact .tail _ (.head _)
      · exact .tail _ (.tail _ (.tail _ hp)))
    refine' seg_A2 C (by assumption) R (by omega) ?off (fr_mapV kF3 ?a0 ?a1 ?a2 ?a3 ?a4 ?a5) N3 ?ret
    case a2 => exact rfl
    case a0 => exact rfl
    case a1 => exact rfl
    case a3 => exact rfl
    case a4 => exact rfl
    case a5 => exact rfl
    case off =>
      intro p hp
      rcases List.mem_cons.mp hp with rfl | hp
      · exact fun e => hoff (Wa, PySem.W.listOf vals.toArray c) (.head _) e.symm
      rcases List.mem_cons.mp hp with rfl | hp
      · exact hDW
      · cases hp
    case ret =>
      intro h' tk' its' bb' t' vals' c' tl' u' hl' R' hfr F4 N4
      dsimp only
      refine wpAny_execs_nil ?_
      refine TurnP.intro (news' := (Wa, PySem.W.listOf vals'.toArray c') :: ((tl' ++ tl) ++ (D, LCg.lst ys) :: rest0)) (fr_mapA F4 rfl rfl rfl rfl rfl) (News.sub N4 fun p hp => ?_) (fun p hp => ?_) ?_
      · rcases List.mem_cons.mp hp with rfl | hp
        · exact .tail _ (.head _)
        rcases List.mem_cons.mp hp with rfl | hp
        · exact .tail _ (.tail _ (.head _))
        rcases List.mem_cons.mp hp with rfl | hp
        · exact .head _
        · rw [List.append_assoc] at hp
          exact .tail _ (.tail _ (.tail _ hp))
      · rcases List.mem_cons.mp hp with rfl | hp
        · exact hoff (Wa, PySem.W.listOf vals.toArray c) (.head _)
        rw [List.append_assoc] at hp
        rcases List.mem_append.mp hp with hp | hp
        · exact Nat.ne_of_gt (hfr p hp (I, oI) (.head _))
        · exact hoff p (.tail _ hp)
      · exact ⟨its', bb', t', vals', c', tl' ++ tl, _, by omega, by rw [List.append_assoc]; exact R', rfl, rfl⟩
  · rintro m₁ news₁ h tk ⟨its, bb, t, vals, c, tl, u₁, hl, R, rfl, rfl⟩ F₁ N₁
    exact ret _ _ _ _ _ _ _ _ _ (by omega) R F₁ (News.sub N₁ fun p hp => .tail _ hp)

end
section
/-- the names of the law behind its first loop -/
def mapB (body inp drawn spare : Value) (u : Str → Option Value) : Str → Option Value := fun y =>
  if y = Str.ofString "good" then some (.bool true) else if y = Str.ofString "body" then some body else if y = Str.ofString "inp" then some inp
  else if y = Str.ofString "drawn" then some drawn else if y = Str.ofString "spare" then some spare else u y
theorem mapB_of {m : Str → Option Value} {body inp drawn spare : Value} (h1 : m (Str.ofString "good") = some (.bool true)) (h2 : m (Str.ofString "body") = some body) (h3 : m (Str.ofString "inp") = some inp) (h4 : m (Str.ofString "drawn") = some drawn) (h5 : m (Str.ofString "spare") = some spare) :
    m = mapB body inp drawn spare m := by
  funext y
  unfold mapB
  split
  · next h => rw [h, h1]
  split
  · next h => rw [h, h2]
  split
  · next h => rw [h, h3]
  split
  · next h => rw [h, h4]
  split
  · next h => rw [h, h5]
  rfl
theorem Call0.mono {w : World} {D : Nat} {f : Addr} {vs : List Value} {news : List (Addr × Obj)} {R R' : Value → List (Addr × Obj) → Prop} (H : Call0 w D f vs news R) (h : ∀ v n, R v n → R' v n) : Call0 w D f vs news R' := by
  unfold Call0 at *
  intro mean mg mb dp un gd cn cs a ccd A₀ base h₀ L m s Q E B F X N T XB TB hk hd hu ret
  exact H mean mg mb dp un gd cn cs a ccd A₀ base h₀ L m s Q E B F X N T XB TB hk hd hu fun v h' tk' nw r => ret v h' tk' nw (h v nw r)
theorem Call0.useR {w : World} {D : Nat} {f : Addr} {vs : List Value} {news : List (Addr × Obj)} {R : Value → List (Addr × Obj) → Prop}
    {mean : ExcName → Option Value} {mg mb : Str → Option Value} {dp un : Nat} {gd : Option (List Code)} {cn : Str} {cs : Scope} {a : Addr} {ccd : Value} {A₀ : Around} {base h₀ : Heap} {L : Addr} {m : Str → Option Value} {s : Shared} {Q E : Value → Shared → Prop}
    (B : Below A₀ base [] h₀) (F : Fr h₀ L s.heap m) (X : (Mine.K w.params).In h₀) (N : News h₀ L s.heap news) (T : Top Mine.view (looseW Mine.view []) mean mg mb h₀) (XB : (Mine.K w.params).In base) (TB : Top Mine.view (looseW Mine.view []) mean mg mb base) (hk : cs.kind = .function)
    (hd : dp + D < recursionLimit) (hu : un + 10 * D < cLine) (H : Call0 w D f vs news R)
    (ret : ∀ v h' tk' news', R v news' → Fr h₀ L h' m → News h₀ L h' news' → Q v { s with heap := h', toks := tk' }) :
    wpAny (model PySem.Challenge.rw_sa0222_01.row.prog w) (ktrTop dp un gd cn cs L a ccd [] []) (call (.ref f) vs) Q E s :=
  H mean mg mb dp un gd cn cs a ccd A₀ base h₀ L m s Q E B F X N T XB TB hk hd hu ret
section
variable {w : World} {x dx : Addr} {k1 k2 k3 t1 t2 t3 tw : Tok} {b : Array UInt8} {a e : Int} {rest : List (Addr × Obj)} {ks : List Int}
abbrev pairT (y : Str) (n : Int) (t u : Tok) : Obj := { cls := .type "tuple", data := .seq [.str y t, .int n u].toArray }
theorem tk_s {z : Int} (I : InOk x dx rest b ks a e) (h : HasNum ks a e (iw z)) (hn : num ks a (iw z) = rot z) (hz : -268435456 ≤ z ∧ z < 268435456) :
    Call0 w 70 274 [.ref x, .int 2 tw] ((x, instObj 159 dx) :: (dx, inD w k1 k2 k3 b t1 a t2 e t3) :: rest)
    (fun v nw => ∃ t2' T' ts tn, nw = (T', pairT (Str.ofString "") z ts tn) :: (x, instObj 159 dx) :: (dx, inD w k1 k2 k3 b t1 (a + iw z) t2' e t3) :: rest ∧ v = .ref T') :=
  (tk_ok2 I h).mono fun v nw ⟨n, t2', T', ts, tn, hq, r⟩ => ⟨t2', T', ts, tn, by rw [hn, rot_back hz] at hq; subst hq; exact r⟩
theorem tk_u {z way : Int} (I : InOk x dx rest b ks a e) (h : HasNum ks a e (uw z)) (hn : num ks a (uw z) = z) (hw : way = 0 ∨ way = 1) :
    Call0 w 70 274 [.ref x, .int way tw] ((x, instObj 159 dx) :: (dx, inD w k1 k2 k3 b t1 a t2 e t3) :: rest)
    (fun v nw => ∃ t2' T' ts tn, nw = (T', pairT (Str.ofString "") z ts tn) :: (x, instObj 159 dx) :: (dx, inD w k1 k2 k3 b t1 (a + uw z) t2' e t3) :: rest ∧ v = .ref T') := by
  rcases hw with rfl | rfl
  · exact (tk_ok0 I h).mono fun v nw ⟨n, t2', T', ts, tn, hq, r⟩ => ⟨t2', T', ts, tn, by rw [hn] at hq; subst hq; exact r⟩
  · exact (tk_ok1 I h (by rw [hn])).mono fun v nw ⟨n, t2', T', ts, tn, hq, r⟩ => ⟨t2', T', ts, tn, by rw [hn] at hq; subst hq; exact r⟩
theorem tk_endw {way : Int} (I : InOk x dx rest b ks a e) (h : TooFew ks a e) (hw : way = 0 ∨ way = 1 ∨ way = 2) :
    Call0 w 70 274 [.ref x, .int way tw] ((x, instObj 159 dx) :: (dx, inD w k1 k2 k3 b t1 a t2 e t3) :: rest)
    (fun v nw => ∃ T' ts tn, nw = (T', pairT (Str.ofString "end") 0 ts tn) :: rest ∧ v = .ref T') := by
  rcases hw with rfl | rfl | rfl
  · exact tk_end0 I h
  · exact tk_end1 I h
  · exact tk_end2 I h
end
def forT (s : Stmt) : PySem.Expr := match s with
  | .For t _ _ _ _ => t
  | _ => .Constant .none 0 ⟨0, 0, 0, 0⟩
@[reducible] noncomputable def tB : PySem.Expr := by
  refine (?g : (forT sB = (?b : PySem.Expr)) → PySem.Expr) ?h
  case g => exact fun _ => ?b
  case h => (conv => lhs; whnf)
theorem fr_mapB {h₀ h : Heap} {L : Addr} {m : Str → Option Value} {body inp drawn spare : Value} (F : Fr h₀ L h m) (h1 : m (Str.ofString "good") = some (.bool true)) (h2 : m (Str.ofString "body") = some body) (h3 : m (Str.ofString "inp") = some inp) (h4 : m (Str.ofString "drawn") = some drawn) (h5 : m (Str.ofString "spare") = some spare) :
    Fr h₀ L h (mapB body inp drawn spare m) := by rw [← mapB_of h1 h2 h3 h4 h5]; exact F
theorem news_tl {h₀ h : Heap} {L : Addr} {p : Addr × Obj} {l : List (Addr × Obj)} (N : News h₀ L h (p :: l)) : News h₀ L h l := fun q hq => N q (.tail _ hq)

theorem w38 : True := by
  k_with_none
  (k_with "call ref" => ((k_here; refine wpAny_call ?_; k_dflt (walk_at "mine enterF"))))
  (k_with "call type:bytes" => ((k_here; (with_reducible show wpAny _ _ (call (Value.type "bytes") [Value.ref _]) _ _ _); k_dflt (refine' Mine.call_bytes_tuple (by k_asm) (by k_asm) (by rfl) (by exact News.isTup (by k_asm) (by k_mem)) (by kba_listInts) ?_ (by kba_size) ?_; rotate_left); intro _ _ _ F' N' kbaIn)))
  (k_with "exec Raise some none" => ((k_here; (with_reducible show wpAny _ _ (exec (Stmt.Raise (some (Expr.Call (Expr.Name ("BadSig" : Str) _) _ _ _)) none _) _) _ _ _); k_dflt (refine Raise_own (C := 63) rfl ?_))))
  (k_with "exec Raise some none" => ((k_here; (with_reducible show wpAny _ _ (exec (Stmt.Raise (some (Expr.Call (Expr.Name ("BadImage" : Str) _) _ _ _)) none _) _) _ _ _); k_dflt (refine Raise_own (C := 51) rfl ?_))))
  (k_with "call ref" => ((k_here; (with_reducible show wpAny _ _ (call (Value.ref _) [_, _]) (RaisableX _ _) _ _); k_dflt (refine' raise_call _ _ _ _ (by first | exact excC_63 _ | exact excC_51 _) (by k_asm) (by k_asm) (by k_asm) (by k_asm) (by k_asm) (by exact rfl) (by ktr_room) (by ktr_units) ?_; k_whole; intro h' tk' e' t' d' F' N' hne' hnt'; (try dsimp only)))))
  (k_with "leaving ref" => ((k_here; first
  | (refine' leave_mine (by assumption) (by assumption) (by assumption) (by assumption) (by assumption) ?_; k_whole; intro h' R' U'; (try dsimp only))
  | (refine' leave_onS (by assumption) (by assumption) (by assumption) (by assumption) ?_; k_whole; intro h' R' RK' U'; (try dsimp only)))))
  (k_with "binaryOp Pow int int" => ((k_here; dsimp only; walk_at "binaryOp Pow int int")))
  (k_with "mine k_all" => (first | assumption | exact ne_lt (by assumption) | exact ne_succ (by assumption) | exact ne_lt (allLt_mem (And.right (by assumption))) | exact ne_lt (allLt_mem (And.right (And.right (by assumption))))))
  (k_with "call builtin:len" => ((k_here; (with_reducible show wpAny _ _ (call (Value.builtin "len") [Value.bytes _ _]) _ _ _); refine KBw.len_K rfl (by omega) ?_)))
  (k_with "call ref" => ((k_here; (with_reducible show wpAny _ _ (call (Value.ref 274) [Value.ref _, Value.int 2 _]) _ _ _); k_dflt (refine Call0.useR (by k_asm) (by k_asm) (by k_asm) (by first | k_asm | exact news_tl (by k_asm)) (by k_asm) (by assumption) (by assumption) (by first | exact rfl | assumption) (by ktr_room) (by ktr_units) (tk_s (by assumption) (by assumption) (by assumption) (by assumption)) ?_; intro v' h' tk' nw' R' F' N'; obtain ⟨t2', T', ts', tn', e0', e'⟩ := R'; subst e0'; subst e'; (try dsimp only)))))
  trivial
theorem turnB_s {w : World} {base h₀ : Heap} {mean : ExcName → Option Value} {mg mb : Str → Option Value} (C : LawC w base h₀ mean mg mb) {cn : Str} {L f : Addr} {ccd : Value} {s : Shared} {Q : Flow → Shared → Prop} {Q₁ E₁ : Value → Shared → Prop}
    {z stop a e : Int} {T x dx : Addr} {k1 k2 k3 t1 t2 t3 bt tv tp : Tok} {b bb : Array UInt8} {ks : List Int} {drawn spare : Value} {u : Str → Option Value} {rest : List (Addr × Obj)}
    (I : InOk x dx rest b ks a e) (h : HasNum ks a e (iw z)) (hn : num ks a (iw z) = rot z) (hz : -268435456 ≤ z ∧ z < 268435456) (hbl : (KBw.bInts bb).length ≤ 1000) (hst : e - (a + iw z) = ((KBw.bInts bb).length : Int) - stop)
    (F : Fr h₀ L s.heap (mapB (.bytes bb bt) (.ref x) drawn spare u))
    (N : News h₀ L s.heap ((T, wantT (true, z) stop tv tp) :: (x, instObj 159 dx) :: (dx, inD w k1 k2 k3 b t1 a t2 e t3) :: rest))
    (ret : ∀ h' tk' t2' u', Fr h₀ L h' (mapB (.bytes bb bt) (.ref x) drawn spare u') → News h₀ L h' ((x, instObj 159 dx) :: (dx, inD w k1 k2 k3 b t1 (a + iw z) t2' e t3) :: rest) → Q .next { s with heap := h', toks := tk' }) :
    wpAny (model PySem.Challenge.rw_sa0222_01.row.prog w) (callerA.deeper (envOf cn fS31 L f ccd)) (assign tB (envOf cn fS31 L f ccd) (.ref T)) (fun _ s₃ => wpAny (model PySem.Challenge.rw_sa0222_01.row.prog w) (callerA.deeper (envOf cn fS31 L f ccd)) (execs bB (envOf cn fS31 L f ccd)) Q (lvE w cn L f ccd Q₁ E₁) s₃) (lvE w cn L f ccd Q₁ E₁) s := by
  obtain ⟨B, X, TT, XB, TB⟩ := C
  unfold wantT at N
  dsimp only at N
  unfold inD at N
  revert X
  k_fill
  intro X
  (try k_fold)
  k_steps
  rename Fr _ _ _ _ => kF
  rename News _ _ _ _ => kN
  refine' ret _ _ _ _ (fr_mapB kF ?a1 ?a2 ?a3 ?a4 ?a5) (news_tl (news_tl kN))
  case a1 => exact congrArg (fun b => some (Value.bool b)) (beq_iff_eq.mpr hst)
  all_goals exact rfl
theorem fm2 (n : Int) : Int.fmod n 2 = 0 ∨ Int.fmod n 2 = 1 := by rw [Int.fmod_eq_emod_of_nonneg _ (by decide)]; omega
theorem w39 : True := by
  (k_with "call ref" => ((k_here; (with_reducible show wpAny _ _ (call (Value.ref 274) [Value.ref _, Value.int (Int.fmod _ _) _]) _ _ _); k_dflt (refine Call0.useR (by k_asm) (by k_asm) (by k_asm) (by first | k_asm | exact news_tl (by k_asm)) (by k_asm) (by assumption) (by assumption) (by first | exact rfl | assumption) (by ktr_room) (by ktr_units) (tk_u (by assumption) (by assumption) (by assumption) (fm2 _)) ?_; intro v' h' tk' nw' R' F' N'; obtain ⟨t2', T', ts', tn', e0', e'⟩ := R'; subst e0'; subst e'; (try dsimp only)))))
  trivial
theorem turnB_u {w : World} {base h₀ : Heap} {mean : ExcName → Option Value} {mg mb : Str → Option Value} (C : LawC w base h₀ mean mg mb) {cn : Str} {L f : Addr} {ccd : Value} {s : Shared} {Q : Flow → Shared → Prop} {Q₁ E₁ : Value → Shared → Prop}
    {z stop a e : Int} {T x dx : Addr} {k1 k2 k3 t1 t2 t3 bt tv tp : Tok} {b bb : Array UInt8} {ks : List Int} {drawn spare : Value} {u : Str → Option Value} {rest : List (Addr × Obj)}
    (I : InOk x dx rest b ks a e) (h : HasNum ks a e (uw z)) (hn : num ks a (uw z) = z) (hz : 0 ≤ z ∧ z < 536870912) (hbl : (KBw.bInts bb).length ≤ 1000) (hst : e - (a + uw z) = ((KBw.bInts bb).length : Int) - stop)
    (F : Fr h₀ L s.heap (mapB (.bytes bb bt) (.ref x) drawn spare u))
    (N : News h₀ L s.heap ((T, wantT (false, z) stop tv tp) :: (x, instObj 159 dx) :: (dx, inD w k1 k2 k3 b t1 a t2 e t3) :: rest))
    (ret : ∀ h' tk' t2' u', Fr h₀ L h' (mapB (.bytes bb bt) (.ref x) drawn spare u') → News h₀ L h' ((x, instObj 159 dx) :: (dx, inD w k1 k2 k3 b t1 (a + uw z) t2' e t3) :: rest) → Q .next { s with heap := h', toks := tk' }) :
    wpAny (model PySem.Challenge.rw_sa0222_01.row.prog w) (callerA.deeper (envOf cn fS31 L f ccd)) (assign tB (envOf cn fS31 L f ccd) (.ref T)) (fun _ s₃ => wpAny (model PySem.Challenge.rw_sa0222_01.row.prog w) (callerA.deeper (envOf cn fS31 L f ccd)) (execs bB (envOf cn fS31 L f ccd)) Q (lvE w cn L f ccd Q₁ E₁) s₃) (lvE w cn L f ccd Q₁ E₁) s := by
  obtain ⟨B, X, TT, XB, TB⟩ := C
  unfold wantT at N
  dsimp only at N
  unfold inD at N
  revert X
  k_fill
  intro X
  (try k_fold)
  k_steps
  rename Fr _ _ _ _ => kF
  rename News _ _ _ _ => kN
  refine' ret _ _ _ _ (fr_mapB kF ?a1 ?a2 ?a3 ?a4 ?a5) (news_tl (news_tl kN))
  case a1 => exact congrArg (fun b => some (Value.bool b)) (beq_iff_eq.mpr hst)
  all_goals exact rfl

end
section
theorem enc_take {its : List (Bool × Int)} {j : Nat} {q : Bool × Int} (h : its[j]? = some q) : enc (its.take (j + 1)) = enc (its.take j) ++ enc1 q := by
  rw [List.take_add_one, h]
  show enc (its.take j ++ [q]) = _
  rw [enc_app, enc_one]
theorem enc_cut {its : List (Bool × Int)} {j : Nat} {q : Bool × Int} (h : its[j]? = some q) : enc its = enc (its.take j) ++ (enc1 q ++ enc (its.drop (j + 1))) := by
  rw [← List.append_assoc, ← enc_take h, ← enc_app, List.take_append_drop]
theorem row_num {its : List (Bool × Int)} {j : Nat} {q : Bool × Int} {sp : List Int} {n k : Int} (h : its[j]? = some q) (hh : Holds1 n k) (he : enc1 q = spread n k) (hk : Wd k) :
    HasNum (sp ++ (enc its ++ sp)) ((sp.length : Int) + (enc (its.take j)).length) ((sp.length : Int) + (enc its).length) k ∧ num (sp ++ (enc its ++ sp)) ((sp.length : Int) + (enc (its.take j)).length) k = n ∧
      ((enc (its.take (j + 1))).length : Int) = (enc (its.take j)).length + k := by
  have hl := spread_len n hk
  have h0 : 0 ≤ k := by rcases hk with rfl | rfl | rfl <;> decide
  have e1 : ((enc (its.take (j + 1))).length : Int) = (enc (its.take j)).length + k := by
    rw [enc_take h, List.length_append, he, hl]; omega
  have e2 : ((enc its).length : Int) = (enc (its.take j)).length + k + (enc (its.drop (j + 1))).length := by
    rw [enc_cut h, List.length_append, List.length_append, he, hl]; omega
  have r := num_spread (ks := sp ++ (enc its ++ sp)) (a := (sp.length : Int) + (enc (its.take j)).length) (e := (sp.length : Int) + (enc its).length) hh (by omega) (by
    rw [show ((sp.length : Int) + ((enc (its.take j)).length : Int)).toNat = sp.length + (enc (its.take j)).length by omega, ← List.drop_drop, List.drop_left, enc_cut h, List.append_assoc, List.drop_left, List.append_assoc, he, ← hl, List.take_left]) (by omega)
  exact ⟨r.1, r.2, e1⟩
/-- what holds at the turns of the second loop -/
def JB (w : World) (x dx : Addr) (k1 k2 k3 t1 t3 bt : Tok) (b bb : Array UInt8) (sp : List Int) (e : Int) (its : List (Bool × Int)) (drawn spare : Value) (rest : List (Addr × Obj)) (j : Nat) (m : Str → Option Value) (news : List (Addr × Obj)) : Prop :=
  ∃ t2 u, m = mapB (.bytes bb bt) (.ref x) drawn spare u ∧ news = (x, instObj 159 dx) :: (dx, inD w k1 k2 k3 b t1 ((sp.length : Int) + (enc (its.take j)).length) t2 e t3) :: rest

theorem w40 : True := by
  k_with_none
  (k_with "call ref" => ((k_here; refine wpAny_call ?_; k_dflt (walk_at "mine enterF"))))
  (k_with "call type:bytes" => ((k_here; (with_reducible show wpAny _ _ (call (Value.type "bytes") [Value.ref _]) _ _ _); k_dflt (refine' Mine.call_bytes_tuple (by k_asm) (by k_asm) (by rfl) (by exact News.isTup (by k_asm) (by k_mem)) (by kba_listInts) ?_ (by kba_size) ?_; rotate_left); intro _ _ _ F' N' kbaIn)))
  (k_with "exec Raise some none" => ((k_here; (with_reducible show wpAny _ _ (exec (Stmt.Raise (some (Expr.Call (Expr.Name ("BadSig" : Str) _) _ _ _)) none _) _) _ _ _); k_dflt (refine Raise_own (C := 63) rfl ?_))))
  (k_with "exec Raise some none" => ((k_here; (with_reducible show wpAny _ _ (exec (Stmt.Raise (some (Expr.Call (Expr.Name ("BadImage" : Str) _) _ _ _)) none _) _) _ _ _); k_dflt (refine Raise_own (C := 51) rfl ?_))))
  (k_with "call ref" => ((k_here; (with_reducible show wpAny _ _ (call (Value.ref _) [_, _]) (RaisableX _ _) _ _); k_dflt (refine' raise_call _ _ _ _ (by first | exact excC_63 _ | exact excC_51 _) (by k_asm) (by k_asm) (by k_asm) (by k_asm) (by k_asm) (by exact rfl) (by ktr_room) (by ktr_units) ?_; k_whole; intro h' tk' e' t' d' F' N' hne' hnt'; (try dsimp only)))))
  (k_with "leaving ref" => ((k_here; first
  | (refine' leave_mine (by assumption) (by assumption) (by assumption) (by assumption) (by assumption) ?_; k_whole; intro h' R' U'; (try dsimp only))
  | (refine' leave_onS (by assumption) (by assumption) (by assumption) (by assumption) ?_; k_whole; intro h' R' RK' U'; (try dsimp only)))))
  (k_with "binaryOp Pow int int" => ((k_here; dsimp only; walk_at "binaryOp Pow int int")))
  (k_with "mine k_all" => (first | assumption | exact ne_lt (by assumption) | exact ne_succ (by assumption) | exact ne_lt (allLt_mem (And.right (by assumption))) | exact ne_lt (allLt_mem (And.right (And.right (by assumption))))))
  (k_with "pyIter ref" => ((k_here; (with_reducible show wpAny _ _ (pyIter (Value.ref _)) (fun it s₂ => TurnsAt _ _ _ _ _ _ _ _ _ it s₂) _ _); refine Halt.get ?_)))
  (k_with "exec For Tuple Name cons nil" => ((k_here; (rename Fr _ _ _ _ => lF'); (with_unfolding_all refine' For_turns lF' ?_))))
  trivial
theorem seg_B {w : World} {base h₀ : Heap} {mean : ExcName → Option Value} {mg mb : Str → Option Value} (C : LawC w base h₀ mean mg mb) {cn : Str} {L f : Addr} {ccd : Value} {s : Shared} {Q : Flow → Shared → Prop} {Q₁ E₁ : Value → Shared → Prop}
    {x dx W : Addr} {k1 k2 k3 t1 t2 t3 bt : Tok} {b bb : Array UInt8} {sp : List Int} {drawn spare : Value} {u : Str → Option Value} {rest : List (Addr × Obj)} {its : List (Bool × Int)} {vals : List Value} {c : Nat}
    (R : Row its bb vals rest W) (hl : its.length ≤ 40) (hsp : sp.length ≤ 4) (hb : KBw.bInts b = sp ++ (enc its ++ sp)) (hx : x ≠ dx) (hW : W ≠ dx) (off : ∀ p ∈ rest, p.1 ≠ dx)
    (F : Fr h₀ L s.heap (fun y => if y = Str.ofString "wanted" then some (.ref W) else mapB (.bytes bb bt) (.ref x) drawn spare u y))
    (N : News h₀ L s.heap ((W, PySem.W.listOf vals.toArray c) :: (x, instObj 159 dx) :: (dx, inD w k1 k2 k3 b t1 (sp.length : Int) t2 ((sp.length : Int) + (enc its).length) t3) :: rest))
    (ret : ∀ h' tk' t2' u', Fr h₀ L h' (mapB (.bytes bb bt) (.ref x) drawn spare u') → News h₀ L h' ((x, instObj 159 dx) :: (dx, inD w k1 k2 k3 b t1 ((sp.length : Int) + (enc its).length) t2' ((sp.length : Int) + (enc its).length) t3) :: rest) → Q .next { s with heap := h', toks := tk' }) :
    wpAny (model PySem.Challenge.rw_sa0222_01.row.prog w) (callerA.deeper (envOf cn fS31 L f ccd)) (exec sB (envOf cn fS31 L f ccd)) Q (lvE w cn L f ccd Q₁ E₁) s := by
  have C' := C
  obtain ⟨B, X, TT, XB, TB⟩ := C'
  obtain ⟨hz1, hz2⟩ := R.small hl
  revert X
  k_fill
  intro X
  k_steps
  refine Halt.mk ?_
  rename News _ _ _ _ => kN
  rename Fr _ _ _ _ => kF
  have kF2 : ∃ u', Fr h₀ L _ (mapB (.bytes bb bt) (.ref x) drawn spare u') := ⟨_, by refine' fr_mapB kF ?_ ?_ ?_ ?_ ?_ <;> exact rfl⟩
  obtain ⟨u9, kF2⟩ := kF2
  refine iter_ownT (env := envOf cn fS31 L f ccd) (JB w x dx k1 k2 k3 t1 t3 bt b bb sp ((sp.length : Int) + (enc its).length) its drawn spare rest) rfl (News.isList kN (.head _)) kF2 kN ⟨t2, u9, rfl, ?_⟩ ?_ ?_
  · show _ = _
    simp [enc]
  · rintro j v m₁ news₁ h tk I oI hv hlt ⟨t2', u', rfl, rfl⟩ hoff hWI F₁ N₁
    obtain ⟨q, hq⟩ : ∃ q, its[j]? = some q := ⟨its[j]'(by rw [← R.len]; exact hlt), List.getElem?_eq_getElem _⟩
    obtain ⟨T, tv, tp, hT, hm⟩ := R.got j q hq
    obtain rfl : v = .ref T := Option.some.inj (hv.symm.trans hT)
    have hok := R.ok q (List.mem_of_getElem? hq)
    have hbl : (KBw.bInts bb).length ≤ 1000 := by rw [R.hi]; exact hz1
    have N2 := News.sub N₁ (l' := (T, wantT q (enc (its.take (j + 1))).length tv tp) :: (x, instObj 159 dx) :: (dx, inD w k1 k2 k3 b t1 ((sp.length : Int) + (enc (its.take j)).length) t2' ((sp.length : Int) + (enc its).length) t3) :: (I, oI) :: (W, PySem.W.listOf vals.toArray c) :: rest) (fun p hp => by
      rcases List.mem_cons.mp hp with rfl | hp
      · exact .tail _ (.tail _ (.tail _ (.tail _ hm)))
      rcases List.mem_cons.mp hp with rfl | hp
      · exact .tail _ (.tail _ (.head _))
      rcases List.mem_cons.mp hp with rfl | hp
      · exact .tail _ (.tail _ (.tail _ (.head _)))
      rcases List.mem_cons.mp hp with rfl | hp
      · exact .head _
      rcases List.mem_cons.mp hp with rfl | hp
      · exact .tail _ (.head _)
      · exact .tail _ (.tail _ (.tail _ (.tail _ hp))))
    have hlen : (sp ++ (enc its ++ sp)).length = 2 * sp.length + (enc its).length := by rw [List.length_append, List.length_append]; omega
    have hle : (enc (its.take j)).length ≤ (enc its).length := by rw [enc_cut hq, List.length_append]; omega
    have I2 : InOk x dx ((I, oI) :: (W, PySem.W.listOf vals.toArray c) :: rest) b (sp ++ (enc its ++ sp)) ((sp.length : Int) + (enc (its.take j)).length) ((sp.length : Int) + (enc its).length) :=
      { ne := hx, off := fun p hp => by
          rcases List.mem_cons.mp hp with rfl | hp
          · exact fun e => hoff (dx, _) (.tail _ (.head _)) e.symm
          rcases List.mem_cons.mp hp with rfl | hp
          · exact hW
          · exact off p hp
        kb := hb, lo := by omega, le := by omega, hi := by rw [hlen]; omega, size := by rw [hlen]; omega }
    have fin : ∀ k : Int, ((enc (its.take (j + 1))).length : Int) = (enc (its.take j)).length + k → ∀ h' tk' t3' u3, Fr h₀ L h' (mapB (.bytes bb bt) (.ref x) drawn spare u3) → News h₀ L h' ((x, instObj 159 dx) :: (dx, inD w k1 k2 k3 b t1 ((sp.length : Int) + (enc (its.take j)).length + k) t3' ((sp.length : Int) + (enc its).length) t3) :: (I, oI) :: (W, PySem.W.listOf vals.toArray c) :: rest) →
        TurnP h₀ L I oI (W, PySem.W.listOf vals.toArray c) (JB w x dx k1 k2 k3 t1 t3 bt b bb sp ((sp.length : Int) + (enc its).length) its drawn spare rest (j + 1)) { s with heap := h, toks := tk } .next { s with heap := h', toks := tk' } := by
      intro k hk h' tk' t3' u3 F3 N3
      rw [Int.add_assoc, ← hk] at N3
      refine TurnP.intro (news' := (x, instObj 159 dx) :: (dx, inD w k1 k2 k3 b t1 ((sp.length : Int) + (enc (its.take (j + 1))).length) t3' ((sp.length : Int) + (enc its).length) t3) :: rest) F3 (News.sub N3 fun p hp => ?_) (fun p hp => ?_) ⟨t3', u3, rfl, rfl⟩
      · rcases List.mem_cons.mp hp with rfl | hp
        · exact .tail _ (.tail _ (.head _))
        rcases List.mem_cons.mp hp with rfl | hp
        · exact .tail _ (.tail _ (.tail _ (.head _)))
        rcases List.mem_cons.mp hp with rfl | hp
        · exact .head _
        rcases List.mem_cons.mp hp with rfl | hp
        · exact .tail _ (.head _)
        · exact .tail _ (.tail _ (.tail _ (.tail _ hp)))
      · rcases List.mem_cons.mp hp with rfl | hp
        · exact hoff (x, instObj 159 dx) (.head _)
        rcases List.mem_cons.mp hp with rfl | hp
        · exact hoff (dx, inD w k1 k2 k3 b t1 ((sp.length : Int) + (enc (its.take j)).length) t2' ((sp.length : Int) + (enc its).length) t3) (.tail _ (.head _))
        · exact hoff p (.tail _ (.tail _ hp))
    obtain ⟨sg, z⟩ := q
    cases sg with
    | true =>
      obtain ⟨a1, a2, a3⟩ := row_num (sp := sp) hq (iw_holds hok) rfl (iw_wd z)
      exact turnB_s C I2 a1 a2 hok hbl (by rw [R.hi]; omega) F₁ N2 (fin _ a3)
    | false =>
      obtain ⟨a1, a2, a3⟩ := row_num (sp := sp) hq (uw_holds hok) rfl (uw_wd z)
      exact turnB_u C I2 a1 a2 hok hbl (by rw [R.hi]; omega) F₁ N2 (fin _ a3)
  · rintro m₁ news₁ h tk ⟨t2', u', rfl, rfl⟩ F₁ N₁
    have e : its.take vals.length = its := List.take_of_length_le (Nat.le_of_eq R.len.symm)
    rw [e] at N₁
    exact ret _ _ _ _ F₁ (news_tl N₁)

end
section
section
variable {w : World} {ob b : Array UInt8} {ko sp : List Int} {a way k : Int}
abbrev tripT (y : Str) (n p : Int) (t u v : Tok) : Obj := { cls := .type "tuple", data := .seq [.str y t, .int n u, .int p v].toArray }
theorem pre_get {i : Nat} (h : i < ko.length) : (ko ++ sp).getD i 0 = ko.getD i 0 := by
  rw [List.getD_eq_getElem?_getD, List.getD_eq_getElem?_getD, List.getElem?_append_left h]
theorem has_app (h0 : 0 ≤ a) (h : HasNum ko a ko.length k) : HasNum (ko ++ sp) a ko.length k ∧ num (ko ++ sp) a k = num ko a k := by
  rcases h with ⟨rfl, h1, h2, h3⟩ | ⟨rfl, h1, h2, h3⟩ | ⟨rfl, h1, h2, h3⟩
  · have g := pre_get (ko := ko) (sp := sp) (i := a.toNat) (by omega)
    exact ⟨.inl ⟨rfl, by rw [g]; exact h1, by rw [g]; exact h2, h3⟩, by rw [num_1, num_1, g]⟩
  · have g := pre_get (ko := ko) (sp := sp) (i := a.toNat) (by omega)
    have g1 := pre_get (ko := ko) (sp := sp) (i := (a + 1).toNat) (by omega)
    exact ⟨.inr (.inl ⟨rfl, by rw [g]; exact h1, by rw [g]; exact h2, h3⟩), by rw [num_2, num_2, g, g1]⟩
  · have g := pre_get (ko := ko) (sp := sp) (i := a.toNat) (by omega)
    have g1 := pre_get (ko := ko) (sp := sp) (i := (a + 1).toNat) (by omega)
    have g2 := pre_get (ko := ko) (sp := sp) (i := (a + 1 + 1).toNat) (by omega)
    have g3 := pre_get (ko := ko) (sp := sp) (i := (a + 1 + 1 + 1).toNat) (by omega)
    exact ⟨.inr (.inr ⟨rfl, by rw [g]; exact h1, by rw [g]; exact h2, h3⟩), by rw [num_4, num_4, g, g1, g2, g3]⟩
theorem few_app (h0 : 0 ≤ a) (h : TooFew ko a ko.length) : TooFew (ko ++ sp) a ko.length := by
  rcases h with h | ⟨h, h1, h2⟩ | ⟨h, h1, h2⟩
  · exact .inl h
  · have g := pre_get (ko := ko) (sp := sp) (i := a.toNat) (by omega)
    exact .inr (.inl ⟨h, by rw [g]; exact h1, by rw [g]; exact h2⟩)
  · have g := pre_get (ko := ko) (sp := sp) (i := a.toNat) (by omega)
    exact .inr (.inr ⟨h, by rw [g]; exact h1, by rw [g]; exact h2⟩)
theorem split_at (hin : ∀ x ∈ ko, 0 ≤ x ∧ x < 256) (h0 : 0 ≤ a) (ha : a ≤ ko.length) : (∃ k, HasNum ko a ko.length k) ∨ TooFew ko a ko.length ∨ (a < ko.length ∧ 224 ≤ ko.getD a.toNat 0) := by
  have g := KBw.getD_in (j := a.toNat) hin
  by_cases h1 : a = ko.length
  · exact .inr (.inl (.inl h1))
  by_cases h2 : ko.getD a.toNat 0 < 128
  · exact .inl ⟨1, .inl ⟨rfl, g.1, h2, by omega⟩⟩
  by_cases h3 : ko.getD a.toNat 0 < 192
  · by_cases h4 : a + 1 = ko.length
    · exact .inr (.inl (.inr (.inl ⟨h4, by omega, h3⟩)))
    · exact .inl ⟨2, .inr (.inl ⟨rfl, by omega, h3, by omega⟩)⟩
  by_cases h5 : ko.getD a.toNat 0 < 224
  · by_cases h6 : a + 3 < ko.length
    · exact .inl ⟨4, .inr (.inr ⟨rfl, by omega, h5, h6⟩)⟩
    · exact .inr (.inl (.inr (.inr ⟨by omega, by omega, h5⟩)))
  · exact .inr (.inr ⟨by omega, by omega⟩)
theorem look_has (hob : KBw.bInts ob = ko) (h0 : 0 ≤ a) (hz : ko.length ≤ 1000) (hw : way = 0 ∨ way = 1 ∨ way = 2) (h : HasNum ko a ko.length k) (t ta tw : Tok) (news : List (Addr × Obj)) :
    Call w 60 267 [.bytes ob t, .int a ta, .int way tw] news (fun v nw => ∃ T' ts tn tp y n p, Looked ko a way k y n p ∧ nw = (T', tripT y n p ts tn tp) :: news ∧ v = .ref T') (fun C nw => False) := by
  rcases h with ⟨rfl, h1, h2, h3⟩ | ⟨rfl, h1, h2, h3⟩ | ⟨rfl, h1, h2, h3⟩
  · exact look_1 w ob ko t ta tw a way hw hob h0 (by omega) h1 h2 (by omega) news
  · exact look_2 w ob ko t ta tw a way hw hob h0 (by omega) h1 h2 h3 news
  · exact look_4 w ob ko t ta tw a way hw hob h0 (by omega) h1 h2 h3 news
theorem look_few (hob : KBw.bInts ob = ko) (h0 : 0 ≤ a) (hz : ko.length ≤ 1000) (h : TooFew ko a ko.length) (t ta tw : Tok) (news : List (Addr × Obj)) :
    Call w 60 267 [.bytes ob t, .int a ta, .int way tw] news (fun v nw => ∃ T' ts tn tp, nw = (T', tripT (Str.ofString "end") 0 a ts tn tp) :: news ∧ v = .ref T') (fun C nw => False) := by
  rcases h with h | ⟨h, h1, h2⟩ | ⟨h, h1, h2⟩
  · exact look_e0 w ob ko t ta tw a way hob h0 (by omega) h news
  · exact look_few2 w ob ko t ta tw a way hob h0 (by omega) h h1 h2 news
  · exact look_few4 w ob ko t ta tw a way hob h0 (by omega) (by omega) h1 h2 news
/-- what the look and the taking answer at a place: the same -/
theorem outcome (hob : KBw.bInts ob = ko) (_hb : KBw.bInts b = ko ++ sp) (h0 : 0 ≤ a) (ha : a ≤ ko.length) (hz : ko.length ≤ 1000) (hw : way = 0 ∨ way = 1 ∨ way = 2) :
    (∃ n p, a < p ∧ p ≤ ko.length ∧ (∀ t ta tw news, Call w 60 267 [.bytes ob t, .int a ta, .int way tw] news (fun v nw => ∃ T' ts tn tp, nw = (T', tripT (Str.ofString "") n p ts tn tp) :: news ∧ v = .ref T') (fun C nw => False)) ∧
      (∀ x dx k1 k2 k3 t1 t2 t3 tw rest, InOk x dx rest b (ko ++ sp) a ko.length → Call0 w 70 274 [.ref x, .int way tw] ((x, instObj 159 dx) :: (dx, inD w k1 k2 k3 b t1 a t2 (ko.length : Int) t3) :: rest)
        (fun v nw => ∃ t2' T' ts tn, nw = (T', pairT (Str.ofString "") n ts tn) :: (x, instObj 159 dx) :: (dx, inD w k1 k2 k3 b t1 p t2' (ko.length : Int) t3) :: rest ∧ v = .ref T'))) ∨
    (∃ y, (y = Str.ofString "end" ∨ y = Str.ofString "sig") ∧ (∀ t ta tw news, Call w 60 267 [.bytes ob t, .int a ta, .int way tw] news (fun v nw => ∃ T' ts tn tp, nw = (T', tripT y 0 a ts tn tp) :: news ∧ v = .ref T') (fun C nw => False)) ∧
      (∀ x dx k1 k2 k3 t1 t2 t3 tw rest, InOk x dx rest b (ko ++ sp) a ko.length → Call0 w 70 274 [.ref x, .int way tw] ((x, instObj 159 dx) :: (dx, inD w k1 k2 k3 b t1 a t2 (ko.length : Int) t3) :: rest)
        (fun v nw => ∃ T' ts tn, nw = (T', pairT y 0 ts tn) :: rest ∧ v = .ref T'))) := by
  have hin : ∀ x ∈ ko, 0 ≤ x ∧ x < 256 := hob ▸ bInts_in ob
  rcases split_at hin h0 ha with ⟨k, h⟩ | h | h
  · obtain ⟨hA, hN⟩ := has_app (sp := sp) h0 h
    have hap : a < a + k ∧ a + k ≤ ko.length := by rcases h with ⟨rfl, _, _, h3⟩ | ⟨rfl, _, _, h3⟩ | ⟨rfl, _, _, h3⟩ <;> omega
    by_cases h2 : way = 2
    · subst h2
      refine .inl ⟨num ko a k / 2 - num ko a k % 2 * 2 ^ (wb k - 1).toNat, a + k, hap.1, hap.2, fun t ta tw news => (look_has hob h0 hz (.inr (.inr rfl)) h t ta tw news).mono (fun v nw ⟨T', ts, tn, tp, y, n, p, hL, r⟩ => ?_) (fun _ _ z => z), fun x dx k1 k2 k3 t1 t2 t3 tw rest I => (tk_ok2 I hA).mono fun v nw ⟨n, t2', T', ts, tn, hq, r⟩ => ?_⟩
      · unfold Looked at hL
        rw [if_pos rfl] at hL
        obtain ⟨rfl, rfl, rfl⟩ := hL
        exact ⟨T', ts, tn, tp, r⟩
      · rw [hN] at hq
        subst hq
        exact ⟨t2', T', ts, tn, r⟩
    · by_cases h1 : way = 1 ∧ uw (num ko a k) ≠ k
      · obtain ⟨rfl, h1⟩ := h1
        refine .inr ⟨_, .inr rfl, fun t ta tw news => (look_has hob h0 hz (.inr (.inl rfl)) h t ta tw news).mono (fun v nw ⟨T', ts, tn, tp, y, n, p, hL, r⟩ => ?_) (fun _ _ z => z), fun x dx k1 k2 k3 t1 t2 t3 tw rest I => tk_long I hA (by rw [hN]; exact h1)⟩
        unfold Looked at hL
        rw [if_neg h2, if_pos ⟨rfl, h1⟩] at hL
        obtain ⟨rfl, rfl, rfl⟩ := hL
        exact ⟨T', ts, tn, tp, r⟩
      · refine .inl ⟨num ko a k, a + k, hap.1, hap.2, fun t ta tw news => (look_has hob h0 hz hw h t ta tw news).mono (fun v nw ⟨T', ts, tn, tp, y, n, p, hL, r⟩ => ?_) (fun _ _ z => z), fun x dx k1 k2 k3 t1 t2 t3 tw rest I => ?_⟩
        · unfold Looked at hL
          rw [if_neg h2, if_neg h1] at hL
          obtain ⟨rfl, rfl, rfl⟩ := hL
          exact ⟨T', ts, tn, tp, r⟩
        · rcases hw with rfl | rfl | rfl
          · refine (tk_ok0 I hA).mono fun v nw ⟨n, t2', T', ts, tn, hq, r⟩ => ?_
            rw [hN] at hq
            subst hq
            exact ⟨t2', T', ts, tn, r⟩
          · have hu : uw (num ko a k) = k := Classical.byContradiction fun q => h1 ⟨rfl, q⟩
            refine (tk_ok1 I hA (by rw [hN]; exact hu)).mono fun v nw ⟨n, t2', T', ts, tn, hq, r⟩ => ?_
            rw [hN] at hq
            subst hq
            exact ⟨t2', T', ts, tn, r⟩
          · exact absurd rfl h2
  · exact .inr ⟨_, .inl rfl, look_few hob h0 hz h, fun x dx k1 k2 k3 t1 t2 t3 tw rest I => tk_endw I (few_app h0 h) hw⟩
  · have g := pre_get (ko := ko) (sp := sp) (i := a.toNat) (by omega)
    have hs : a < ko.length ∧ 224 ≤ (ko ++ sp).getD a.toNat 0 := ⟨h.1, by rw [g]; exact h.2⟩
    refine .inr ⟨_, .inr rfl, fun t ta tw news => look_sig w ob ko t ta tw a way hob h0 (by omega) h news, fun x dx k1 k2 k3 t1 t2 t3 tw rest I => ?_⟩
    rcases hw with rfl | rfl | rfl
    · exact tk_sig0 I hs
    · exact tk_sig1 I hs
    · exact tk_sig2 I hs
end

end
section
/-- the names of the law while it looks -/
def mapD (why spot inp way octets spare : Value) (u : Str → Option Value) : Str → Option Value := fun y =>
  if y = Str.ofString "good" then some (.bool true) else if y = Str.ofString "why" then some why else if y = Str.ofString "spot" then some spot else if y = Str.ofString "inp" then some inp
  else if y = Str.ofString "way" then some way else if y = Str.ofString "octets" then some octets else if y = Str.ofString "spare" then some spare else u y
theorem fr_mapD {h₀ h : Heap} {L : Addr} {m : Str → Option Value} {why spot inp way octets spare : Value} (F : Fr h₀ L h m) (h1 : m (Str.ofString "good") = some (.bool true)) (h2 : m (Str.ofString "why") = some why) (h3 : m (Str.ofString "spot") = some spot) (h4 : m (Str.ofString "inp") = some inp) (h5 : m (Str.ofString "way") = some way) (h6 : m (Str.ofString "octets") = some octets) (h7 : m (Str.ofString "spare") = some spare) :
    Fr h₀ L h (mapD why spot inp way octets spare m) := by
  have e : m = mapD why spot inp way octets spare m := by
    funext y
    unfold mapD
    split
    · next h => rw [h, h1]
    split
    · next h => rw [h, h2]
    split
    · next h => rw [h, h3]
    split
    · next h => rw [h, h4]
    split
    · next h => rw [h, h5]
    split
    · next h => rw [h, h6]
    split
    · next h => rw [h, h7]
    rfl
  rw [← e]; exact F

theorem w41 : True := by
  k_with_none
  (k_with "call ref" => ((k_here; refine wpAny_call ?_; k_dflt (walk_at "mine enterF"))))
  (k_with "call type:bytes" => ((k_here; (with_reducible show wpAny _ _ (call (Value.type "bytes") [Value.ref _]) _ _ _); k_dflt (refine' Mine.call_bytes_tuple (by k_asm) (by k_asm) (by rfl) (by exact News.isTup (by k_asm) (by k_mem)) (by kba_listInts) ?_ (by kba_size) ?_; rotate_left); intro _ _ _ F' N' kbaIn)))
  (k_with "exec Raise some none" => ((k_here; (with_reducible show wpAny _ _ (exec (Stmt.Raise (some (Expr.Call (Expr.Name ("BadSig" : Str) _) _ _ _)) none _) _) _ _ _); k_dflt (refine Raise_own (C := 63) rfl ?_))))
  (k_with "exec Raise some none" => ((k_here; (with_reducible show wpAny _ _ (exec (Stmt.Raise (some (Expr.Call (Expr.Name ("BadImage" : Str) _) _ _ _)) none _) _) _ _ _); k_dflt (refine Raise_own (C := 51) rfl ?_))))
  (k_with "call ref" => ((k_here; (with_reducible show wpAny _ _ (call (Value.ref _) [_, _]) (RaisableX _ _) _ _); k_dflt (refine' raise_call _ _ _ _ (by first | exact excC_63 _ | exact excC_51 _) (by k_asm) (by k_asm) (by k_asm) (by k_asm) (by k_asm) (by exact rfl) (by ktr_room) (by ktr_units) ?_; k_whole; intro h' tk' e' t' d' F' N' hne' hnt'; (try dsimp only)))))
  (k_with "leaving ref" => ((k_here; first
  | (refine' leave_mine (by assumption) (by assumption) (by assumption) (by assumption) (by assumption) ?_; k_whole; intro h' R' U'; (try dsimp only))
  | (refine' leave_onS (by assumption) (by assumption) (by assumption) (by assumption) ?_; k_whole; intro h' R' RK' U'; (try dsimp only)))))
  (k_with "binaryOp Pow int int" => ((k_here; dsimp only; walk_at "binaryOp Pow int int")))
  (k_with "mine k_all" => (first | assumption | exact ne_lt (by assumption) | exact ne_succ (by assumption) | exact ne_lt (allLt_mem (And.right (by assumption))) | exact ne_lt (allLt_mem (And.right (And.right (by assumption))))))
  (k_with "call ref" => ((k_here; (with_reducible show wpAny _ _ (call (Value.ref 267) [Value.bytes _ _, Value.int _ _, Value.int _ _]) _ _ _); k_dflt (refine Call.useR (by k_asm) (by k_asm) (by k_asm) (by k_asm) (by k_asm) (by first | exact rfl | assumption) (by ktr_room) (by ktr_units) (Lk _ _ _ _) ?_ (fun _ _ _ _ _ _ _ _ z' => z'.elim); intro v' h' tk' nw' R' F' N'; obtain ⟨T', ts', tn', tp', e0', e'⟩ := R'; subst e0'; subst e'; (try dsimp only)))))
  (k_with "call ref" => ((k_here; (with_reducible show wpAny _ _ (call (Value.ref 274) [Value.ref _, Value.int _ _]) _ _ _); k_dflt (refine Call0.useR (by k_asm) (by k_asm) (by k_asm) (by first | k_asm | exact news_tl (by k_asm)) (by k_asm) (by assumption) (by assumption) (by first | exact rfl | assumption) (by ktr_room) (by ktr_units) (Tk _ _ _ _ _ _ _ _ _ _ (by assumption)) ?_; intro v' h' tk' nw' R' F' N'; first | (obtain ⟨t2', T', ts', tn', e0', e'⟩ := R'; subst e0'; subst e'; (try dsimp only)) | (obtain ⟨T', ts', tn', e0', e'⟩ := R'; subst e0'; subst e'; (try dsimp only))))))
  trivial
theorem turnD_go {w : World} {base h₀ : Heap} {mean : ExcName → Option Value} {mg mb : Str → Option Value} (C : LawC w base h₀ mean mg mb) {cn : Str} {L f : Addr} {ccd : Value} {s : Shared} {Q : Flow → Shared → Prop} {Q₁ E₁ : Value → Shared → Prop}
    {a e n p way : Int} {x dx : Addr} {k1 k2 k3 t1 t2 t3 ws ta tw to : Tok} {b ob : Array UInt8} {ks : List Int} {spare : Value} {u : Str → Option Value} {rest : List (Addr × Obj)}
    (Lk : ∀ t ta tw news, Call w 60 267 [.bytes ob t, .int a ta, .int way tw] news (fun v nw => ∃ T' ts tn tp, nw = (T', tripT (Str.ofString "") n p ts tn tp) :: news ∧ v = .ref T') (fun C nw => False))
    (Tk : ∀ x dx k1 k2 k3 t1 t2 t3 tw rest, InOk x dx rest b ks a e → Call0 w 70 274 [.ref x, .int way tw] ((x, instObj 159 dx) :: (dx, inD w k1 k2 k3 b t1 a t2 e t3) :: rest)
        (fun v nw => ∃ t2' T' ts tn, nw = (T', pairT (Str.ofString "") n ts tn) :: (x, instObj 159 dx) :: (dx, inD w k1 k2 k3 b t1 p t2' e t3) :: rest ∧ v = .ref T'))
    (I : InOk x dx rest b ks a e)
    (F : Fr h₀ L s.heap (mapD (.str (Str.ofString "") ws) (.int a ta) (.ref x) (.int way tw) (.bytes ob to) spare u))
    (N : News h₀ L s.heap ((x, instObj 159 dx) :: (dx, inD w k1 k2 k3 b t1 a t2 e t3) :: rest))
    (ret : ∀ h' tk' t2' u' ws' ta', Fr h₀ L h' (mapD (.str (Str.ofString "") ws') (.int p ta') (.ref x) (.int way tw) (.bytes ob to) spare u') → News h₀ L h' ((x, instObj 159 dx) :: (dx, inD w k1 k2 k3 b t1 p t2' e t3) :: rest) → Q .next { s with heap := h', toks := tk' }) :
    wpAny (model PySem.Challenge.rw_sa0222_01.row.prog w) (callerA.deeper (envOf cn fS31 L f ccd)) (execs bD (envOf cn fS31 L f ccd)) Q (lvE w cn L f ccd Q₁ E₁) s := by
  obtain ⟨B, X, TT, XB, TB⟩ := C
  unfold inD at N
  revert X
  k_fill
  intro X
  (try k_fold)
  k_steps
  rename Fr _ _ _ _ => kF
  rename News _ _ _ _ => kN
  refine' ret _ _ _ _ _ _ (fr_mapD kF ?a1 ?a2 ?a3 ?a4 ?a5 ?a6 ?a7) (news_tl (news_tl kN))
  case a1 => exact congrArg (fun b => some (Value.bool b)) (beq_self_eq_true _)
  case a2 => exact rfl
  case a3 => exact rfl
  all_goals exact rfl
theorem turnD_end {w : World} {base h₀ : Heap} {mean : ExcName → Option Value} {mg mb : Str → Option Value} (C : LawC w base h₀ mean mg mb) {cn : Str} {L f : Addr} {ccd : Value} {s : Shared} {Q : Flow → Shared → Prop} {Q₁ E₁ : Value → Shared → Prop}
    {a e way : Int} {x dx : Addr} {k1 k2 k3 t1 t2 t3 ws ta tw to : Tok} {b ob : Array UInt8} {ks : List Int} {spare : Value} {u : Str → Option Value} {rest : List (Addr × Obj)}
    (Lk : ∀ t ta tw news, Call w 60 267 [.bytes ob t, .int a ta, .int way tw] news (fun v nw => ∃ T' ts tn tp, nw = (T', tripT (Str.ofString "end") 0 a ts tn tp) :: news ∧ v = .ref T') (fun C nw => False))
    (Tk : ∀ x dx k1 k2 k3 t1 t2 t3 tw rest, InOk x dx rest b ks a e → Call0 w 70 274 [.ref x, .int way tw] ((x, instObj 159 dx) :: (dx, inD w k1 k2 k3 b t1 a t2 e t3) :: rest)
        (fun v nw => ∃ T' ts tn, nw = (T', pairT (Str.ofString "end") 0 ts tn) :: rest ∧ v = .ref T'))
    (I : InOk x dx rest b ks a e)
    (F : Fr h₀ L s.heap (mapD (.str (Str.ofString "") ws) (.int a ta) (.ref x) (.int way tw) (.bytes ob to) spare u))
    (N : News h₀ L s.heap ((x, instObj 159 dx) :: (dx, inD w k1 k2 k3 b t1 a t2 e t3) :: rest))
    (ret : ∀ h' tk' u' ws' ta', Fr h₀ L h' (mapD (.str (Str.ofString "end") ws') (.int a ta') (.ref x) (.int way tw) (.bytes ob to) spare u') → News h₀ L h' rest → Q .next { s with heap := h', toks := tk' }) :
    wpAny (model PySem.Challenge.rw_sa0222_01.row.prog w) (callerA.deeper (envOf cn fS31 L f ccd)) (execs bD (envOf cn fS31 L f ccd)) Q (lvE w cn L f ccd Q₁ E₁) s := by
  obtain ⟨B, X, TT, XB, TB⟩ := C
  unfold inD at N
  revert X
  k_fill
  intro X
  (try k_fold)
  k_steps
  rename Fr _ _ _ _ => kF
  rename News _ _ _ _ => kN
  refine' ret _ _ _ _ _ (fr_mapD kF ?a1 ?a2 ?a3 ?a4 ?a5 ?a6 ?a7) (news_tl (news_tl kN))
  case a1 => exact rfl
  case a2 => exact rfl
  case a3 => exact rfl
  all_goals exact rfl
theorem turnD_sig {w : World} {base h₀ : Heap} {mean : ExcName → Option Value} {mg mb : Str → Option Value} (C : LawC w base h₀ mean mg mb) {cn : Str} {L f : Addr} {ccd : Value} {s : Shared} {Q : Flow → Shared → Prop} {Q₁ E₁ : Value → Shared → Prop}
    {a e way : Int} {x dx : Addr} {k1 k2 k3 t1 t2 t3 ws ta tw to : Tok} {b ob : Array UInt8} {ks : List Int} {spare : Value} {u : Str → Option Value} {rest : List (Addr × Obj)}
    (Lk : ∀ t ta tw news, Call w 60 267 [.bytes ob t, .int a ta, .int way tw] news (fun v nw => ∃ T' ts tn tp, nw = (T', tripT (Str.ofString "sig") 0 a ts tn tp) :: news ∧ v = .ref T') (fun C nw => False))
    (Tk : ∀ x dx k1 k2 k3 t1 t2 t3 tw rest, InOk x dx rest b ks a e → Call0 w 70 274 [.ref x, .int way tw] ((x, instObj 159 dx) :: (dx, inD w k1 k2 k3 b t1 a t2 e t3) :: rest)
        (fun v nw => ∃ T' ts tn, nw = (T', pairT (Str.ofString "sig") 0 ts tn) :: rest ∧ v = .ref T'))
    (I : InOk x dx rest b ks a e)
    (F : Fr h₀ L s.heap (mapD (.str (Str.ofString "") ws) (.int a ta) (.ref x) (.int way tw) (.bytes ob to) spare u))
    (N : News h₀ L s.heap ((x, instObj 159 dx) :: (dx, inD w k1 k2 k3 b t1 a t2 e t3) :: rest))
    (ret : ∀ h' tk' u' ws' ta', Fr h₀ L h' (mapD (.str (Str.ofString "sig") ws') (.int a ta') (.ref x) (.int way tw) (.bytes ob to) spare u') → News h₀ L h' rest → Q .next { s with heap := h', toks := tk' }) :
    wpAny (model PySem.Challenge.rw_sa0222_01.row.prog w) (callerA.deeper (envOf cn fS31 L f ccd)) (execs bD (envOf cn fS31 L f ccd)) Q (lvE w cn L f ccd Q₁ E₁) s := by
  obtain ⟨B, X, TT, XB, TB⟩ := C
  unfold inD at N
  revert X
  k_fill
  intro X
  (try k_fold)
  k_steps
  rename Fr _ _ _ _ => kF
  rename News _ _ _ _ => kN
  refine' ret _ _ _ _ _ (fr_mapD kF ?a1 ?a2 ?a3 ?a4 ?a5 ?a6 ?a7) (news_tl (news_tl kN))
  case a1 => exact rfl
  case a2 => exact rfl
  case a3 => exact rfl
  all_goals exact rfl

end
section
/-- what holds at the turns of the while -/
def JD (w : World) (x dx : Addr) (k1 k2 k3 t1 t3 tw to : Tok) (b ob : Array UInt8) (e way : Int) (spare : Value) (rest : List (Addr × Obj)) (n : Nat) (m : Str → Option Value) (news : List (Addr × Obj)) : Prop :=
  (∃ a t2 u ws ta, 0 ≤ a ∧ a ≤ e ∧ n = (e - a).toNat + 1 ∧ m = mapD (.str (Str.ofString "") ws) (.int a ta) (.ref x) (.int way tw) (.bytes ob to) spare u ∧ news = (x, instObj 159 dx) :: (dx, inD w k1 k2 k3 b t1 a t2 e t3) :: rest) ∨
  (n = 0 ∧ ∃ y ws spot u, (y = Str.ofString "end" ∨ y = Str.ofString "sig") ∧ m = mapD (.str y ws) spot (.ref x) (.int way tw) (.bytes ob to) spare u ∧ news = rest)
theorem step_on {h₀ : Heap} {L : Addr} {s : Shared} {J : Nat → (Str → Option Value) → List (Addr × Obj) → Prop} {Q : Flow → Shared → Prop} {n : Nat} {s₃ : Shared} (h : ∃ h' tk m₂ news₂ n', s₃ = { s with heap := h', toks := tk } ∧ Fr h₀ L h' m₂ ∧ News h₀ L h' news₂ ∧ n' < n ∧ J n' m₂ news₂) : WhileStep2 h₀ L s J Q n .next s₃ := h

theorem w42 : True := by
  k_with_none
  (k_with "call ref" => ((k_here; refine wpAny_call ?_; k_dflt (walk_at "mine enterF"))))
  (k_with "call type:bytes" => ((k_here; (with_reducible show wpAny _ _ (call (Value.type "bytes") [Value.ref _]) _ _ _); k_dflt (refine' Mine.call_bytes_tuple (by k_asm) (by k_asm) (by rfl) (by exact News.isTup (by k_asm) (by k_mem)) (by kba_listInts) ?_ (by kba_size) ?_; rotate_left); intro _ _ _ F' N' kbaIn)))
  (k_with "exec Raise some none" => ((k_here; (with_reducible show wpAny _ _ (exec (Stmt.Raise (some (Expr.Call (Expr.Name ("BadSig" : Str) _) _ _ _)) none _) _) _ _ _); k_dflt (refine Raise_own (C := 63) rfl ?_))))
  (k_with "exec Raise some none" => ((k_here; (with_reducible show wpAny _ _ (exec (Stmt.Raise (some (Expr.Call (Expr.Name ("BadImage" : Str) _) _ _ _)) none _) _) _ _ _); k_dflt (refine Raise_own (C := 51) rfl ?_))))
  (k_with "call ref" => ((k_here; (with_reducible show wpAny _ _ (call (Value.ref _) [_, _]) (RaisableX _ _) _ _); k_dflt (refine' raise_call _ _ _ _ (by first | exact excC_63 _ | exact excC_51 _) (by k_asm) (by k_asm) (by k_asm) (by k_asm) (by k_asm) (by exact rfl) (by ktr_room) (by ktr_units) ?_; k_whole; intro h' tk' e' t' d' F' N' hne' hnt'; (try dsimp only)))))
  (k_with "leaving ref" => ((k_here; first
  | (refine' leave_mine (by assumption) (by assumption) (by assumption) (by assumption) (by assumption) ?_; k_whole; intro h' R' U'; (try dsimp only))
  | (refine' leave_onS (by assumption) (by assumption) (by assumption) (by assumption) ?_; k_whole; intro h' R' RK' U'; (try dsimp only)))))
  (k_with "binaryOp Pow int int" => ((k_here; dsimp only; walk_at "binaryOp Pow int int")))
  (k_with "mine k_all" => (first | assumption | exact ne_lt (by assumption) | exact ne_succ (by assumption) | exact ne_lt (allLt_mem (And.right (by assumption))) | exact ne_lt (allLt_mem (And.right (And.right (by assumption))))))
  (k_with "execs cons" => ((k_here; (with_reducible show wpAny _ _ (execs (Stmt.Assign [Expr.Tuple _ _ _] _ _ :: _) _) _ _ _); refine Halt.get ?_)))
  trivial
theorem seg_D {w : World} {base h₀ : Heap} {mean : ExcName → Option Value} {mg mb : Str → Option Value} (C : LawC w base h₀ mean mg mb) {cn : Str} {L f : Addr} {ccd : Value} {s : Shared} {Q : Flow → Shared → Prop} {Q₁ E₁ : Value → Shared → Prop}
    {way : Int} {x dx : Addr} {k1 k2 k3 t1 t2 t3 ws ta tw to : Tok} {b ob : Array UInt8} {ko sp : List Int} {spare : Value} {u : Str → Option Value} {rest : List (Addr × Obj)}
    (hob : KBw.bInts ob = ko) (hb : KBw.bInts b = ko ++ sp) (hz : ko.length ≤ 1000) (hsp : sp.length ≤ 4) (hw : way = 0 ∨ way = 1 ∨ way = 2) (hx : x ≠ dx) (off : ∀ p ∈ rest, p.1 ≠ dx)
    (F : Fr h₀ L s.heap (mapD (.str (Str.ofString "") ws) (.int 0 ta) (.ref x) (.int way tw) (.bytes ob to) spare u))
    (N : News h₀ L s.heap ((x, instObj 159 dx) :: (dx, inD w k1 k2 k3 b t1 0 t2 (ko.length : Int) t3) :: rest))
    (ret : ∀ h' tk' why spot inp u', Fr h₀ L h' (mapD why spot inp (.int way tw) (.bytes ob to) spare u') → News h₀ L h' rest → Q .next { s with heap := h', toks := tk' }) :
    wpAny (model PySem.Challenge.rw_sa0222_01.row.prog w) (callerA.deeper (envOf cn fS31 L f ccd)) (exec sD (envOf cn fS31 L f ccd)) Q (lvE w cn L f ccd Q₁ E₁) s := by
  have C' := C
  obtain ⟨B, X, TT, XB, TB⟩ := C'
  refine While_inv2 (JD w x dx k1 k2 k3 t1 t3 tw to b ob (ko.length : Int) way spare rest) F N (.inl ⟨0, t2, u, ws, ta, by omega, by omega, rfl, rfl, rfl⟩) ?_
  rintro n m₁ news₁ h₁ tk₁ F₁ N₁ (⟨a, t2', u', ws', ta', h0, ha, rfl, rfl, rfl⟩ | ⟨rfl, y, ws', spot, u', hy, rfl, rfl⟩)
  · have I : InOk x dx rest b (ko ++ sp) a (ko.length : Int) := { ne := hx, off := off, kb := hb, lo := h0, le := ha, hi := by rw [List.length_append]; omega, size := by rw [List.length_append]; omega }
    revert X
    k_fill
    intro X
    k_steps
    refine Halt.mk ?_
    rename News _ _ _ _ => kN
    rename Fr _ _ _ _ => kF
    rcases outcome (w := w) hob hb h0 ha hz hw with ⟨n, p, hap, hpe, Lk, Tk⟩ | ⟨y, rfl | rfl, Lk, Tk⟩
    · exact turnD_go C Lk Tk I kF kN fun h' tk' t2' u' ws' ta' F' N' => step_on ⟨h', tk', _, _, ((ko.length : Int) - p).toNat + 1, rfl, F', N', by omega, .inl ⟨p, _, _, _, _, by omega, hpe, rfl, rfl, rfl⟩⟩
    · exact turnD_end C Lk Tk I kF kN fun h' tk' u' ws' ta' F' N' => step_on ⟨h', tk', _, _, 0, rfl, F', N', by omega, .inr ⟨rfl, _, _, _, _, .inl rfl, rfl, rfl⟩⟩
    · exact turnD_sig C Lk Tk I kF kN fun h' tk' u' ws' ta' F' N' => step_on ⟨h', tk', _, _, 0, rfl, F', N', by omega, .inr ⟨rfl, _, _, _, _, .inr rfl, rfl, rfl⟩⟩
  · revert X
    k_fill
    intro X
    rcases hy with rfl | rfl
    · k_steps
      exact ret _ _ _ _ _ _ F₁ N₁
    · k_steps
      exact ret _ _ _ _ _ _ F₁ N₁

end
section
/-- the names of the law in its third loop -/
def mapC (octets spare : Value) (u : Str → Option Value) : Str → Option Value := fun y =>
  if y = Str.ofString "good" then some (.bool true) else if y = Str.ofString "octets" then some octets else if y = Str.ofString "spare" then some spare else u y
theorem fr_mapC {h₀ h : Heap} {L : Addr} {m : Str → Option Value} {octets spare : Value} (F : Fr h₀ L h m) (h1 : m (Str.ofString "good") = some (.bool true)) (h6 : m (Str.ofString "octets") = some octets) (h7 : m (Str.ofString "spare") = some spare) :
    Fr h₀ L h (mapC octets spare m) := by
  have e : m = mapC octets spare m := by
    funext y
    unfold mapC
    split
    · next h => rw [h, h1]
    split
    · next h => rw [h, h6]
    split
    · next h => rw [h, h7]
    rfl
  rw [← e]; exact F
section
variable {prog : Program} {w : World} {A : Around} {E : Value → Shared → Prop} {s : Shared} {env : Env} {h₀ : Heap} {x : Str} {body : List Stmt} {Q : Flow → Shared → Prop}
/-- a turn's end of a loop over a range -/
def TurnQ (h₀ : Heap) (L I : Addr) (oI : Obj) (J : (Str → Option Value) → List (Addr × Obj) → Prop) (s₁ : Shared) (f : Flow) (s₂ : Shared) : Prop :=
  f = .next ∧ ∃ h' tk m' news', s₂ = { s₁ with heap := h', toks := tk } ∧ Fr h₀ L h' m' ∧ News h₀ L h' ((I, oI) :: news') ∧ (∀ p ∈ news', p.1 ≠ I) ∧ J m' news'
theorem TurnQ.intro {L I : Addr} {oI : Obj} {J : (Str → Option Value) → List (Addr × Obj) → Prop} {s₁ : Shared} {h' : Heap} {tk : Nat} {m' : Str → Option Value} {news' : List (Addr × Obj)} (F : Fr h₀ L h' m') (N : News h₀ L h' ((I, oI) :: news'))
    (hn : ∀ p ∈ news', p.1 ≠ I) (hj : J m' news') : TurnQ h₀ L I oI J s₁ .next { s₁ with heap := h', toks := tk } := ⟨rfl, h', tk, m', news', rfl, F, N, hn, hj⟩
theorem iter_rng {r : Addr} {a₀ b₀ : Int} {t₀ u₀ v₀ : Tok} {n : Nat} {m₀ : Str → Option Value} {news : List (Addr × Obj)} (J : Nat → (Str → Option Value) → List (Addr × Obj) → Prop)
    (hh : A.handled = none) (hr : IsRange s.heap r a₀ b₀ 1 t₀ u₀ v₀) (hsmall : Builtin.Range.small a₀ b₀ 1 = true) (hn : Builtin.Range.rangeSize a₀ b₀ 1 = (n : Int)) (F : Fr h₀ env.locals s.heap m₀) (N : News h₀ env.locals s.heap news) (hj : J 0 m₀ news)
    (turn : ∀ i t m₁ news₁ h tk I oI, i < n → J i m₁ news₁ → (∀ p ∈ news₁, p.1 ≠ I) → Fr h₀ env.locals h (fun y => if y = x then some (.int (a₀ + (i : Int)) t) else m₁ y) → News h₀ env.locals h ((I, oI) :: news₁) →
      wpAny (model prog w) A (execs body env) (TurnQ h₀ env.locals I oI (J (i + 1)) { s with heap := h, toks := tk }) E { s with heap := h, toks := tk })
    (done : ∀ m₁ news₁ h tk, J n m₁ news₁ → Fr h₀ env.locals h m₁ → News h₀ env.locals h news₁ → Q .next { s with heap := h, toks := tk }) :
    wpAny (model prog w) A (pyIter (.ref r)) (fun it s₂ => LoopAtV prog w A h₀ env x body Q E it s₂) E s := by
  refine wpAny_pyIter_range hr hsmall ?_
  have W : Walks prog w A s.heap.objs.size [s.heap.objs.size] [s.heap.objs.size] n (fun i v => i < n ∧ ∃ t, v = .int (a₀ + i * 1) t)
      (fun i h => IsRangeIter h s.heap.objs.size (a₀ + (i : Nat) * 1) ((n : Int) - (i : Nat)) 1) := (Walks.range hh _ a₀ 1 n).bound
  have hnew := next_is_new F
  refine ⟨_, _, _, n, _, _, m₀, news, J, rfl, W, ?_, ?_, ?_, (by show IsRangeIter _ _ _ _ _; rw [hn]; simpa using Heap.get?_push_size _ rfl), F.push _, (fun p hp => ⟨Heap.get?_push_of_some _ (N p hp).1, (N p hp).2⟩), hj, ?_, ?_⟩
  · intro hm
    exact absurd F.ns.lt ((List.mem_singleton.mp hm) ▸ Nat.lt_irrefl _)
  · intro b hb
    rw [List.mem_singleton.mp hb]
    exact hnew
  · intro p hp hI
    exact absurd (Heap.lt_size (N p hp).1) ((List.mem_singleton.mp hI) ▸ Nat.lt_irrefl _)
  · rintro i v m₁ news₁ s₁ own ⟨hh', tk', rfl⟩ hin ⟨_, t, rfl⟩ hJ hoff hown hget hall hst F₁ N₁
    have hst' : hh'.get? s.heap.objs.size = some (itR (a₀ + ((i + 1 : Nat) : Int)) ((n : Int) - ((i + 1 : Nat) : Int))) := by
      have q : IsRangeIter hh' s.heap.objs.size (a₀ + ((i + 1 : Nat) : Int) * 1) ((n : Int) - ((i + 1 : Nat) : Int)) 1 := hst
      rw [Int.mul_one] at q
      exact q
    have hmem := hall s.heap.objs.size (List.mem_singleton.mpr rfl) hnew _ hst'
    have e1 : a₀ + (i : Int) * 1 = a₀ + (i : Int) := by rw [Int.mul_one]
    rw [e1] at F₁
    have N₂ : News h₀ env.locals hh' ((s.heap.objs.size, itR (a₀ + ((i + 1 : Nat) : Int)) ((n : Int) - ((i + 1 : Nat) : Int))) :: news₁) := fun p hp => by
      rcases List.mem_cons.mp hp with rfl | hp
      · exact N₁ _ (List.mem_append_left _ hmem)
      · exact N₁ _ (List.mem_append_right _ hp)
    refine wpAny_mono (turn i t m₁ news₁ hh' tk' _ _ hin hJ (fun p hp e => hoff p hp (List.mem_singleton.mpr e)) F₁ N₂) (fun f s₂ p => ?_) fun _ _ e => e
    obtain ⟨rfl, h', tk, m', news', e, F', N', ho, hj'⟩ := p
    refine .next ⟨rfl, h', tk, m', news', e, F', fun p hp => ?_, fun p hp hI => ho p hp (List.mem_singleton.mp hI), hj'⟩
    rcases List.mem_append.mp hp with hp | hp
    · have h1 : p.1 = s.heap.objs.size := List.mem_singleton.mp (hown p hp)
      have h2 : hh'.get? p.1 = some p.2 := hget p hp
      have h3 : p = (s.heap.objs.size, itR (a₀ + ((i + 1 : Nat) : Int)) ((n : Int) - ((i + 1 : Nat) : Int))) := by
        rw [h1, hst'] at h2
        exact Prod.ext h1 (Option.some.inj h2).symm
      rw [h3]; exact N' _ (List.mem_cons_self ..)
    · exact N' _ (List.mem_cons_of_mem _ hp)
  · intro h' tk m' news' F' N' _ hJ
    exact done m' news' h' tk hJ F' N'
end

theorem w43 : True := by
  k_with_none
  (k_with "call ref" => ((k_here; refine wpAny_call ?_; k_dflt (walk_at "mine enterF"))))
  (k_with "call type:bytes" => ((k_here; (with_reducible show wpAny _ _ (call (Value.type "bytes") [Value.ref _]) _ _ _); k_dflt (refine' Mine.call_bytes_tuple (by k_asm) (by k_asm) (by rfl) (by exact News.isTup (by k_asm) (by k_mem)) (by kba_listInts) ?_ (by kba_size) ?_; rotate_left); intro _ _ _ F' N' kbaIn)))
  (k_with "exec Raise some none" => ((k_here; (with_reducible show wpAny _ _ (exec (Stmt.Raise (some (Expr.Call (Expr.Name ("BadSig" : Str) _) _ _ _)) none _) _) _ _ _); k_dflt (refine Raise_own (C := 63) rfl ?_))))
  (k_with "exec Raise some none" => ((k_here; (with_reducible show wpAny _ _ (exec (Stmt.Raise (some (Expr.Call (Expr.Name ("BadImage" : Str) _) _ _ _)) none _) _) _ _ _); k_dflt (refine Raise_own (C := 51) rfl ?_))))
  (k_with "call ref" => ((k_here; (with_reducible show wpAny _ _ (call (Value.ref _) [_, _]) (RaisableX _ _) _ _); k_dflt (refine' raise_call _ _ _ _ (by first | exact excC_63 _ | exact excC_51 _) (by k_asm) (by k_asm) (by k_asm) (by k_asm) (by k_asm) (by exact rfl) (by ktr_room) (by ktr_units) ?_; k_whole; intro h' tk' e' t' d' F' N' hne' hnt'; (try dsimp only)))))
  (k_with "leaving ref" => ((k_here; first
  | (refine' leave_mine (by assumption) (by assumption) (by assumption) (by assumption) (by assumption) ?_; k_whole; intro h' R' U'; (try dsimp only))
  | (refine' leave_onS (by assumption) (by assumption) (by assumption) (by assumption) ?_; k_whole; intro h' R' RK' U'; (try dsimp only)))))
  (k_with "binaryOp Pow int int" => ((k_here; dsimp only; walk_at "binaryOp Pow int int")))
  (k_with "mine k_all" => (first | assumption | exact ne_lt (by assumption) | exact ne_succ (by assumption) | exact ne_lt (allLt_mem (And.right (by assumption))) | exact ne_lt (allLt_mem (And.right (And.right (by assumption))))))
  (k_with "binaryOp Add bytes bytes" => ((k_here; k_dflt (refine KBa.add_K (by assumption) (by assumption) (by omega) ?_); intro _ _ kbaApp)))
  (k_with "call builtin:len" => ((k_here; (with_reducible show wpAny _ _ (call (Value.builtin "len") [Value.bytes _ _]) _ _ _); refine KBw.len_K (by assumption) (by first | omega | (rw [List.length_append]; omega)) ?_)))
  (k_with "exec While Compare cons nil" => ((k_here; refine Halt.get ?_)))
  trivial
theorem turnC {w : World} {base h₀ : Heap} {mean : ExcName → Option Value} {mg mb : Str → Option Value} (C : LawC w base h₀ mean mg mb) {cn : Str} {L f : Addr} {ccd : Value} {s : Shared} {Q : Flow → Shared → Prop} {Q₁ E₁ : Value → Shared → Prop}
    {way : Int} {tw to st : Tok} {ob sb : Array UInt8} {ko sp : List Int} {u : Str → Option Value} {rest : List (Addr × Obj)}
    (hob : KBw.bInts ob = ko) (hsb : KBw.bInts sb = sp) (hz : ko.length ≤ 1000) (hsp : sp.length ≤ 4) (hw : way = 0 ∨ way = 1 ∨ way = 2)
    (F : Fr h₀ L s.heap (fun y => if y = Str.ofString "way" then some (.int way tw) else mapC (.bytes ob to) (.bytes sb st) u y))
    (N : News h₀ L s.heap rest)
    (ret : ∀ h' tk' u', Fr h₀ L h' (mapC (.bytes ob to) (.bytes sb st) u') → News h₀ L h' rest → Q .next { s with heap := h', toks := tk' }) :
    wpAny (model PySem.Challenge.rw_sa0222_01.row.prog w) (callerA.deeper (envOf cn fS31 L f ccd)) (execs bC (envOf cn fS31 L f ccd)) Q (lvE w cn L f ccd Q₁ E₁) s := by
  have C' := C
  obtain ⟨B, X, TT, XB, TB⟩ := C'
  revert X
  k_fill
  intro X
  k_steps
  refine Halt.mk ?_
  rename News _ _ _ _ => kN
  rename Fr _ _ _ _ => kF
  refine' seg_D C hob (by assumption) hz hsp hw ?hx ?off (fr_mapD kF ?a1 ?a2 ?a3 ?a4 ?a5 ?a6 ?a7) kN ?ret
  case a2 => exact rfl
  case a3 => exact rfl
  case a1 => exact rfl
  case a4 => exact rfl
  case a5 => exact rfl
  case a6 => exact rfl
  case a7 => exact rfl
  case ret =>
    intro h' tk' why spot inp u' F' N'
    dsimp only
    refine wpAny_execs_nil ?_
    refine' ret _ _ _ (fr_mapC F' ?b1 ?b2 ?b3) N' <;> exact rfl
  case hx => exact Nat.ne_of_gt (by assumption)
  case off => k_all

end
section
def JC (ob sb : Array UInt8) (to st : Tok) (rest : List (Addr × Obj)) (_ : Nat) (m : Str → Option Value) (news : List (Addr × Obj)) : Prop :=
  ∃ u, m = mapC (.bytes ob to) (.bytes sb st) u ∧ news = rest

theorem w44 : True := by
  k_with_none
  (k_with "call ref" => ((k_here; refine wpAny_call ?_; k_dflt (walk_at "mine enterF"))))
  (k_with "call type:bytes" => ((k_here; (with_reducible show wpAny _ _ (call (Value.type "bytes") [Value.ref _]) _ _ _); k_dflt (refine' Mine.call_bytes_tuple (by k_asm) (by k_asm) (by rfl) (by exact News.isTup (by k_asm) (by k_mem)) (by kba_listInts) ?_ (by kba_size) ?_; rotate_left); intro _ _ _ F' N' kbaIn)))
  (k_with "exec Raise some none" => ((k_here; (with_reducible show wpAny _ _ (exec (Stmt.Raise (some (Expr.Call (Expr.Name ("BadSig" : Str) _) _ _ _)) none _) _) _ _ _); k_dflt (refine Raise_own (C := 63) rfl ?_))))
  (k_with "exec Raise some none" => ((k_here; (with_reducible show wpAny _ _ (exec (Stmt.Raise (some (Expr.Call (Expr.Name ("BadImage" : Str) _) _ _ _)) none _) _) _ _ _); k_dflt (refine Raise_own (C := 51) rfl ?_))))
  (k_with "call ref" => ((k_here; (with_reducible show wpAny _ _ (call (Value.ref _) [_, _]) (RaisableX _ _) _ _); k_dflt (refine' raise_call _ _ _ _ (by first | exact excC_63 _ | exact excC_51 _) (by k_asm) (by k_asm) (by k_asm) (by k_asm) (by k_asm) (by exact rfl) (by ktr_room) (by ktr_units) ?_; k_whole; intro h' tk' e' t' d' F' N' hne' hnt'; (try dsimp only)))))
  (k_with "leaving ref" => ((k_here; first
  | (refine' leave_mine (by assumption) (by assumption) (by assumption) (by assumption) (by assumption) ?_; k_whole; intro h' R' U'; (try dsimp only))
  | (refine' leave_onS (by assumption) (by assumption) (by assumption) (by assumption) ?_; k_whole; intro h' R' RK' U'; (try dsimp only)))))
  (k_with "binaryOp Pow int int" => ((k_here; dsimp only; walk_at "binaryOp Pow int int")))
  (k_with "mine k_all" => (first | assumption | exact ne_lt (by assumption) | exact ne_succ (by assumption) | exact ne_lt (allLt_mem (And.right (by assumption))) | exact ne_lt (allLt_mem (And.right (And.right (by assumption))))))
  (k_with "exec For Name Call cons nil" => ((k_here; (with_reducible show wpAny _ _ (exec (Stmt.For (Expr.Name ("way" : Str) _) _ _ [] _) _) _ _ _); (rename Fr _ _ _ _ => lF'); (with_unfolding_all refine' For_invVF lF' (by exact rfl) (by exact rfl) ?_; k_whole))))
  (k_with "pyIter ref" => ((k_here; (with_reducible show wpAny _ _ (pyIter (Value.ref _)) (fun it s₂ => LoopAtV _ _ _ _ _ ("way" : Str) _ _ _ it s₂) _ _); refine Halt.get ?_)))
  trivial
theorem seg_C {w : World} {base h₀ : Heap} {mean : ExcName → Option Value} {mg mb : Str → Option Value} (C : LawC w base h₀ mean mg mb) {cn : Str} {L f : Addr} {ccd : Value} {s : Shared} {Q : Flow → Shared → Prop} {Q₁ E₁ : Value → Shared → Prop}
    {to st : Tok} {ob sb : Array UInt8} {ko sp : List Int} {u : Str → Option Value} {rest : List (Addr × Obj)}
    (hob : KBw.bInts ob = ko) (hsb : KBw.bInts sb = sp) (hz : ko.length ≤ 1000) (hsp : sp.length ≤ 4)
    (F : Fr h₀ L s.heap (mapC (.bytes ob to) (.bytes sb st) u))
    (N : News h₀ L s.heap rest)
    (ret : ∀ h' tk' u' rest', Fr h₀ L h' (mapC (.bytes ob to) (.bytes sb st) u') → News h₀ L h' rest' → Q .next { s with heap := h', toks := tk' }) :
    wpAny (model PySem.Challenge.rw_sa0222_01.row.prog w) (callerA.deeper (envOf cn fS31 L f ccd)) (exec sC (envOf cn fS31 L f ccd)) Q (lvE w cn L f ccd Q₁ E₁) s := by
  have C' := C
  obtain ⟨B, X, TT, XB, TB⟩ := C'
  revert X
  k_fill
  intro X
  k_steps
  refine Halt.mk ?_
  rename News _ _ _ _ => kN
  rename Fr _ _ _ _ => kF
  rename IsRange _ _ _ _ _ _ _ _ => kR
  refine iter_rng (n := 3) (JC ob sb to st _) rfl kR (by decide +kernel) (by decide +kernel) kF kN ⟨u, rfl, rfl⟩ ?_ ?_
  · rintro i t m₁ news₁ h tk I oI hi ⟨u', rfl, rfl⟩ hoff F₁ N₁
    have hw : (0 + (i : Int)) = 0 ∨ (0 + (i : Int)) = 1 ∨ (0 + (i : Int)) = 2 := by omega
    exact turnC C hob hsb hz hsp hw F₁ N₁ fun h' tk' u2 F2 N2 => TurnQ.intro F2 N2 hoff ⟨u2, rfl, rfl⟩
  · rintro m₁ news₁ h tk ⟨u', rfl, rfl⟩ F₁ N₁
    exact ret _ _ _ _ F₁ N₁

end
section
@[reducible] noncomputable def rE : List Stmt := by
  refine (?g : (List.drop 10 fB31 = (?b : List Stmt)) → List Stmt) ?h
  case g => exact fun _ => ?b
  case h => (conv => lhs; whnf)
def AllB (vs : List Value) : Prop := ∀ v ∈ vs, ∃ b t, v = .bytes b t ∧ b.size ≤ 4
theorem fm3 (n : Int) : Int.fmod n 3 = 0 ∨ Int.fmod n 3 = 1 ∨ Int.fmod n 3 = 2 := by rw [Int.fmod_eq_emod_of_nonneg _ (by decide)]; omega
theorem bj_type : typeOf (.builtin "bytes.join") = pure (.type "method_descriptor") := by kernel_rfl
theorem bj_method {M : Model} {A : Around} {E : Value → Shared → Prop} {s : Shared} {t : Tok} {b : Array UInt8} {pl : Sem Bool} {Q : Value × List Value → Shared → Prop} (h : Q (.builtin "bytes.join", [.bytes b t]) s) : wpAny M A (getMethod (.bytes b t) (Str.ofString "join") pl) Q E s :=
  KBd.method_of (.bytes b t) (typeIs_bytes _ _ _) bj_slot bj_type KBd.noRef h

set_option maxHeartbeats 2000000 in
theorem w45 : True := by
  k_with_none
  (k_with "call ref" => ((k_here; refine wpAny_call ?_; k_dflt (walk_at "mine enterF"))))
  (k_with "call type:bytes" => ((k_here; (with_reducible show wpAny _ _ (call (Value.type "bytes") [Value.ref _]) _ _ _); k_dflt (refine' Mine.call_bytes_tuple (by k_asm) (by k_asm) (by rfl) (by exact News.isTup (by k_asm) (by k_mem)) (by kba_listInts) ?_ (by kba_size) ?_; rotate_left); intro _ _ _ F' N' kbaIn)))
  (k_with "exec Raise some none" => ((k_here; (with_reducible show wpAny _ _ (exec (Stmt.Raise (some (Expr.Call (Expr.Name ("BadSig" : Str) _) _ _ _)) none _) _) _ _ _); k_dflt (refine Raise_own (C := 63) rfl ?_))))
  (k_with "exec Raise some none" => ((k_here; (with_reducible show wpAny _ _ (exec (Stmt.Raise (some (Expr.Call (Expr.Name ("BadImage" : Str) _) _ _ _)) none _) _) _ _ _); k_dflt (refine Raise_own (C := 51) rfl ?_))))
  (k_with "call ref" => ((k_here; (with_reducible show wpAny _ _ (call (Value.ref _) [_, _]) (RaisableX _ _) _ _); k_dflt (refine' raise_call _ _ _ _ (by first | exact excC_63 _ | exact excC_51 _) (by k_asm) (by k_asm) (by k_asm) (by k_asm) (by k_asm) (by exact rfl) (by ktr_room) (by ktr_units) ?_; k_whole; intro h' tk' e' t' d' F' N' hne' hnt'; (try dsimp only)))))
  (k_with "leaving ref" => ((k_here; first
  | (refine' leave_mine (by assumption) (by assumption) (by assumption) (by assumption) (by assumption) ?_; k_whole; intro h' R' U'; (try dsimp only))
  | (refine' leave_onS (by assumption) (by assumption) (by assumption) (by assumption) ?_; k_whole; intro h' R' RK' U'; (try dsimp only)))))
  (k_with "binaryOp Pow int int" => ((k_here; dsimp only; walk_at "binaryOp Pow int int")))
  (k_with "mine k_all" => (first | assumption | exact ne_lt (by assumption) | exact ne_succ (by assumption) | exact ne_lt (allLt_mem (And.right (by assumption))) | exact ne_lt (allLt_mem (And.right (And.right (by assumption))))))
  (k_with "getMethod bytes" => ((k_here; (with_reducible show wpAny _ _ (getMethod (Value.bytes _ _) (Str.ofString "join") _) _ _ _); refine bj_method ?_)))
  (k_with "call builtin:len" => ((k_here; (with_reducible show wpAny _ _ (call (Value.builtin "len") [Value.bytes _ _]) _ _ _); refine KBw.len_K rfl (by omega) ?_)))
  (k_with "call ref" => ((k_here; (with_reducible show wpAny _ _ (call (Value.ref 274) [Value.ref _, Value.int (Int.fmod _ _) _]) _ _ _); k_dflt (refine Call0.useR (by k_asm) (by k_asm) (by k_asm) (by first | k_asm | exact news_tl (by k_asm)) (by k_asm) (by assumption) (by assumption) (by first | exact rfl | assumption) (by ktr_room) (by ktr_units) (tk_endw (by assumption) (.inl rfl) (fm3 _)) ?_; intro v' h' tk' nw' R' F' N'; obtain ⟨T', ts', tn', e0', e'⟩ := R'; subst e0'; subst e'; (try dsimp only)))))
  (k_with "call ref" => ((k_here; (with_reducible show wpAny _ _ (call (Value.ref 281) [Value.int _ _]) _ _ _); k_dflt ((refine Pure.useR (by k_asm) (by k_asm) (by k_asm) (by k_asm) (by k_asm) (by first | exact rfl | assumption) (by ktr_room) (by ktr_units) (law_wild_ok _ _ _ (by assumption)) ?_; k_whole; intro v' h' tk' R' F' N'; first | (obtain ⟨t', e'⟩ := R'; subst e') | (obtain ⟨z', hz', t', e'⟩ := R'; subst e') | subst R'; (try dsimp only); (try k_fold))))))
  (k_with "eval Call" => ((k_here; (with_reducible show wpAny _ _ (eval (Expr.Call (Expr.Name ("_law_wild" : Str) _) _ _ _) _) _ _ _); k_dflt (refine Call_Name (by rfl) ?_))))
  (k_with "eval ListComp" => ((k_here; k_dflt (refine LCg.ListComp_U (F₀ := by k_asm) (by with_unfolding_all rfl) (by decide) (by rfl) (by decide) (by rfl) ?_))))
  (k_with "CompSrc" => ((k_here; refine Halt.get ?_)))
  (k_with "call builtin:bytes.join" => ((k_here; refine Halt.get ?_)))
  (k_with "exec For Name Call cons nil" => ((k_here; (with_reducible show wpAny _ _ (exec (Stmt.For (Expr.Name ("way" : Str) _) _ _ [] _) _) _ _ _); refine Halt.get ?_)))
  trivial
theorem seg_E {w : World} {base h₀ : Heap} {mean : ExcName → Option Value} {mg mb : Str → Option Value} (C : LawC w base h₀ mean mg mb) {cn : Str} {L f : Addr} {ccd : Value} {s : Shared} {Q : Flow → Shared → Prop} {Q₁ E₁ : Value → Shared → Prop}
    {a : Int} {x dx D : Addr} {k1 k2 k3 t1 t2 t3 bt st : Tok} {b bb sb : Array UInt8} {ks sp : List Int} {u : Str → Option Value} {rest : List (Addr × Obj)} {ys : List Value} {zs : List Int}
    (I : InOk x dx ((D, LCg.lst ys) :: rest) b ks a a) (hbl : (KBw.bInts bb).length ≤ 1000) (hsb : KBw.bInts sb = sp) (hsp : sp.length ≤ 4)
    (hy : IntsAre ys zs) (hz : ∀ n ∈ zs, 0 ≤ n ∧ n < 1099511627776) (hlen : zs.length ≤ 14)
    (F : Fr h₀ L s.heap (mapB (.bytes bb bt) (.ref x) (.ref D) (.bytes sb st) u))
    (N : News h₀ L s.heap ((x, instObj 159 dx) :: (dx, inD w k1 k2 k3 b t1 a t2 a t3) :: (D, LCg.lst ys) :: rest))
    (ret : ∀ h' tk' u' rest', Fr h₀ L h' u' → News h₀ L h' rest' → Q (.ret (.bool true)) { s with heap := h', toks := tk' }) :
    wpAny (model PySem.Challenge.rw_sa0222_01.row.prog w) (callerA.deeper (envOf cn fS31 L f ccd)) (execs rE (envOf cn fS31 L f ccd)) Q (lvE w cn L f ccd Q₁ E₁) s := by
  have C' := C
  obtain ⟨B, X, TT, XB, TB⟩ := C'
  have hyl := hy.length
  unfold inD at N
  revert X
  k_fill
  intro X
  (try k_fold)
  k_steps
  refine Halt.mk ?_
  refine LCg.CompSrc.ledger rfl (by assumption) (by assumption) (by k_mem) (by rw [PySem.sizeLine_eq]; show ys.toArray.size ≤ _; rw [List.size_toArray]; omega) ?_
  intro g
  refine rest_map (α := Unit) (fun vs xs => AllB vs ∧ vs.length = xs.length) (fun _ y => ∃ b t, y = .bytes b t ∧ b.size ≤ 4) ⟨fun _ h => (nomatch h), rfl⟩ (fun vs xs a y h1 h2 => ⟨fun v hv => (List.mem_append.mp hv).elim (h1.1 v) fun h => (List.mem_singleton.mp h) ▸ h2, by rw [List.length_append, List.length_append, h1.2]; rfl⟩) (fun _ => ()) ?_ ?_
  · intro i v I oI C oC D m₂ ys' h tk E' hi hP hC hx F' N' off ne
    obtain ⟨n, t', hn, rfl⟩ : ∃ n t', (0 ≤ n ∧ n < 1099511627776) ∧ v = .int n t' := by
      have hi' : i < zs.length := by rw [← hyl, ← List.size_toArray]; exact hi
      obtain ⟨t', e⟩ := hy.get i zs[i] (by simp [hi'])
      have hP' : ys[i]? = some v := by simpa using hP
      rw [e] at hP'
      exact ⟨_, t', hz _ (List.getElem_mem hi'), (Option.some.inj hP').symm⟩
    k_steps
    exact LCg.CompEnd.intro (by assumption) (by assumption) _ (fun p hp => hp) off (.inr ⟨_, by k_mem, rfl, _, rfl⟩) ⟨rfl, _, _, rfl, by assumption⟩
  · intro ys' hys
    k_steps
    refine Halt.mk ?_
    have hyn : ys'.length = ys.length := by rw [hys.2, List.length_map, List.length_range, List.size_toArray]
    refine join_bytes (News.isList (by assumption) (by k_mem)) (fun v hv => hys.1 v hv) (by rw [List.size_toArray]; omega) ?_
    intro o t' k ho
    k_steps
    refine Halt.mk ?_
    rename Fr _ _ _ _ => kF
    rename News _ _ _ _ => kN
    refine' seg_C C rfl hsb ?z hsp (fr_mapC kF ?b1 ?b2 ?b3) kN ?ret
    case b1 => exact rfl
    case b2 => exact rfl
    case b3 => exact rfl
    case z =>
      have ho' : o.size ≤ 4 * ys'.length := ho
      rw [KBw.ints_length]; omega
    case ret =>
      intro h' tk' u' rest' F' N'
      k_steps
      exact ret _ _ _ _ F' N'

end
section
@[reducible] noncomputable def rM : List Stmt := by
  refine (?g : (List.drop 5 fB31 = (?b : List Stmt)) → List Stmt) ?h
  case g => exact fun _ => ?b
  case h => (conv => lhs; whnf)


theorem w46 : True := by
  k_with_none
  (k_with "call ref" => ((k_here; refine wpAny_call ?_; k_dflt (walk_at "mine enterF"))))
  (k_with "call type:bytes" => ((k_here; (with_reducible show wpAny _ _ (call (Value.type "bytes") [Value.ref _]) _ _ _); k_dflt (refine' Mine.call_bytes_tuple (by k_asm) (by k_asm) (by rfl) (by exact News.isTup (by k_asm) (by k_mem)) (by kba_listInts) ?_ (by kba_size) ?_; rotate_left); intro _ _ _ F' N' kbaIn)))
  (k_with "exec Raise some none" => ((k_here; (with_reducible show wpAny _ _ (exec (Stmt.Raise (some (Expr.Call (Expr.Name ("BadSig" : Str) _) _ _ _)) none _) _) _ _ _); k_dflt (refine Raise_own (C := 63) rfl ?_))))
  (k_with "exec Raise some none" => ((k_here; (with_reducible show wpAny _ _ (exec (Stmt.Raise (some (Expr.Call (Expr.Name ("BadImage" : Str) _) _ _ _)) none _) _) _ _ _); k_dflt (refine Raise_own (C := 51) rfl ?_))))
  (k_with "call ref" => ((k_here; (with_reducible show wpAny _ _ (call (Value.ref _) [_, _]) (RaisableX _ _) _ _); k_dflt (refine' raise_call _ _ _ _ (by first | exact excC_63 _ | exact excC_51 _) (by k_asm) (by k_asm) (by k_asm) (by k_asm) (by k_asm) (by exact rfl) (by ktr_room) (by ktr_units) ?_; k_whole; intro h' tk' e' t' d' F' N' hne' hnt'; (try dsimp only)))))
  (k_with "leaving ref" => ((k_here; first
  | (refine' leave_mine (by assumption) (by assumption) (by assumption) (by assumption) (by assumption) ?_; k_whole; intro h' R' U'; (try dsimp only))
  | (refine' leave_onS (by assumption) (by assumption) (by assumption) (by assumption) ?_; k_whole; intro h' R' RK' U'; (try dsimp only)))))
  (k_with "binaryOp Pow int int" => ((k_here; dsimp only; walk_at "binaryOp Pow int int")))
  (k_with "mine k_all" => (first | assumption | exact ne_lt (by assumption) | exact ne_succ (by assumption) | exact ne_lt (allLt_mem (And.right (by assumption))) | exact ne_lt (allLt_mem (And.right (And.right (by assumption))))))
  (k_with "eval Call" => ((k_here; (with_reducible show wpAny _ _ (eval (Expr.Call (Expr.Name ("_law_value" : Str) _) _ _ _) _) _ _ _); k_dflt (refine Call_Name (by rfl) ?_))))
  (k_with "eval Call" => ((k_here; (with_reducible show wpAny _ _ (eval (Expr.Call (Expr.Name ("_law_octets" : Str) _) _ _ _) _) _ _ _); k_dflt (refine Call_Name (by rfl) ?_))))
  (k_with "eval Call" => ((k_here; (with_reducible show wpAny _ _ (eval (Expr.Call (Expr.Name ("compress_uint" : Str) _) _ _ _) _) _ _ _); k_dflt (refine Call_Name (by rfl) ?_))))
  (k_with "eval Call" => ((k_here; (with_reducible show wpAny _ _ (eval (Expr.Call (Expr.Name ("compress_int" : Str) _) _ _ _) _) _ _ _); k_dflt (refine Call_Name (by rfl) ?_))))
  (k_with "call ref" => ((k_here; (with_reducible show wpAny _ _ (call (Value.ref 257) [Value.int _ _]) _ _ _); k_dflt ((refine Pure.useR (by k_asm) (by k_asm) (by k_asm) (by k_asm) (by k_asm) (by first | exact rfl | assumption) (by ktr_room) (by ktr_units) (law_value_ok _ _ _ (by assumption)) ?_; k_whole; intro v' h' tk' R' F' N'; first | (obtain ⟨t', e'⟩ := R'; subst e') | (obtain ⟨z', hz', t', e'⟩ := R'; subst e') | subst R'; (try dsimp only); (try k_fold))); refine Halt.get ?_)))
  (k_with "call ref" => ((k_here; (with_reducible show wpAny _ _ (call (Value.ref 262) [Value.int _ _, Value.bool false]) _ _ _); k_dflt (first | (refine Pure.useR (by k_asm) (by k_asm) (by k_asm) (by k_asm) (by k_asm) (by first | exact rfl | assumption) (by ktr_room) (by ktr_units) (octets_in _ _ _ (by omega)) ?_; k_whole; intro v' h' tk' R' F' N'; first | (obtain ⟨t', e'⟩ := R'; subst e') | (obtain ⟨z', hz', t', e'⟩ := R'; subst e') | subst R'; (try dsimp only); (try k_fold)) | (refine Pure.useR (by k_asm) (by k_asm) (by k_asm) (by k_asm) (by k_asm) (by first | exact rfl | assumption) (by ktr_room) (by ktr_units) (oct_u_out _ _ _ (by assumption) (by omega)) ?_; k_whole; intro v' h' tk' R' F' N'; first | (obtain ⟨t', e'⟩ := R'; subst e') | (obtain ⟨z', hz', t', e'⟩ := R'; subst e') | subst R'; (try dsimp only); (try k_fold))))))
  (k_with "call ref" => ((k_here; (with_reducible show wpAny _ _ (call (Value.ref 262) [Value.int _ _, Value.bool true]) _ _ _); k_dflt (first | (refine Pure.useR (by k_asm) (by k_asm) (by k_asm) (by k_asm) (by k_asm) (by first | exact rfl | assumption) (by ktr_room) (by ktr_units) (oct_s_in _ _ _ (by omega)) ?_; k_whole; intro v' h' tk' R' F' N'; first | (obtain ⟨t', e'⟩ := R'; subst e') | (obtain ⟨z', hz', t', e'⟩ := R'; subst e') | subst R'; (try dsimp only); (try k_fold)) | (refine Pure.useR (by k_asm) (by k_asm) (by k_asm) (by k_asm) (by k_asm) (by first | exact rfl | assumption) (by ktr_room) (by ktr_units) (oct_s_out _ _ _ (by assumption) (by omega)) ?_; k_whole; intro v' h' tk' R' F' N'; first | (obtain ⟨t', e'⟩ := R'; subst e') | (obtain ⟨z', hz', t', e'⟩ := R'; subst e') | subst R'; (try dsimp only); (try k_fold))))))
  (k_with "call ref" => ((k_here; (with_reducible show wpAny _ _ (call (Value.ref 184) [Value.int _ _]) _ _ _); k_dflt (first
  | (refine' Call.useR (by k_asm) (by k_asm) (by k_asm) (by k_asm) (by k_asm) (by first | exact rfl | assumption) (by ktr_room) (by ktr_units) (comp_u_in _ _ _ _ (by omega)) ?_ ?_; rotate_left; (intro _ _ _ _ _ _ _ _ z'; exact z'.elim); rotate_right; (intro v' h' tk' nw' R' F' N'; obtain ⟨e0', ⟨t', e'⟩, hf'⟩ := R'; subst e0'; subst e'; (try dsimp only); (try k_fold)))
  | (refine' Call.useR (by k_asm) (by k_asm) (by k_asm) (by k_asm) (by k_asm) (by first | exact rfl | assumption) (by ktr_room) (by ktr_units) (comp_u_out _ _ _ _ (by omega)) ?_ ?_; (intro _ _ _ _ z'; exact z'.elim); (intro C' e' t' xs' h' tk' nw' g' Z' FG' R' U'; obtain ⟨e0', e1', hf'⟩ := Z'; subst e0'; subst e1'; (try dsimp only)))))))
  (k_with "call ref" => ((k_here; (with_reducible show wpAny _ _ (call (Value.ref 226) [Value.int _ _]) _ _ _); k_dflt (first
  | (refine' Call.useR (by k_asm) (by k_asm) (by k_asm) (by k_asm) (by k_asm) (by first | exact rfl | assumption) (by ktr_room) (by ktr_units) (comp_s_in _ _ _ _ (by omega)) ?_ ?_; rotate_left; (intro _ _ _ _ _ _ _ _ z'; exact z'.elim); rotate_right; (intro v' h' tk' nw' R' F' N'; obtain ⟨e0', ⟨t', e'⟩, hf'⟩ := R'; subst e0'; subst e'; (try dsimp only); (try k_fold)))
  | (refine' Call.useR (by k_asm) (by k_asm) (by k_asm) (by k_asm) (by k_asm) (by first | exact rfl | assumption) (by ktr_room) (by ktr_units) (comp_s_out _ _ _ _ (by omega)) ?_ ?_; (intro _ _ _ _ z'; exact z'.elim); (intro C' e' t' xs' h' tk' nw' g' Z' FG' R' U'; obtain ⟨e0', e1', hf'⟩ := Z'; subst e0'; subst e1'; (try dsimp only)))))))
  (k_with "binaryOp Add bytes bytes" => ((k_here; k_dflt (first
  | (refine' add_u (by assumption) (by (constructor <;> omega)) (by first | exact size_1 (by assumption) | exact size_2 (by assumption) (spread_le _ _)) ?_; intro _ _ kbaApp)
  | (refine' add_s (by assumption) (by (constructor <;> omega)) (by first | exact size_1 (by assumption) | exact size_2 (by assumption) (spread_le _ _)) ?_; intro _ _ kbaApp)))))
  (k_with "compareOp Eq bytes bytes" => ((k_here; refine eq_same ?_)))
  (k_with "call builtin:list.append" => ((k_here; (with_reducible show wpAny _ _ (call (Value.builtin _) [Value.ref _, _]) _ _ _); k_dflt (refine' append_K (by k_asm) (by k_asm) (by k_upd) ?_ (by (rw [PySem.sizeLine_eq]; first | (show (List.toArray _).size ≤ _; rw [List.size_toArray]; omega) | (rw [Array.size_push, List.size_toArray]; omega))); k_whole; intro h' F' N'; (try dsimp only at N')))))
  trivial
theorem pack_spare {h₀ h : Heap} {L : Addr} {ls : List Int} {x : Str} {t : Tok} {m : Str → Option Value} (hin : KBa.In ls) (hl : ls.length ≤ 4) (F : Fr h₀ L h (fun y => if y = x then some (.bytes (byteArr ls) t) else m y)) :
    ∃ sp sb, sp.length ≤ 4 ∧ KBw.bInts sb = sp ∧ Fr h₀ L h (fun y => if y = x then some (.bytes sb t) else m y) := ⟨ls, _, hl, KBa.ints_make hin, F⟩
/-- the drawn list first -/
theorem news_split {h₀ h : Heap} {L Wa D : Addr} {oW oD : Obj} {tl rest0 : List (Addr × Obj)} (N : News h₀ L h ((Wa, oW) :: (tl ++ (D, oD) :: rest0))) : ∃ r1, r1 = (Wa, oW) :: (tl ++ rest0) ∧ News h₀ L h ((D, oD) :: r1) :=
  ⟨_, rfl, News.sub N fun p hp => by
    rcases List.mem_cons.mp hp with rfl | hp
    · exact .tail _ (List.mem_append_right _ (.head _))
    rcases List.mem_cons.mp hp with rfl | hp
    · exact .head _
    rcases List.mem_append.mp hp with hp | hp
    · exact .tail _ (List.mem_append_left _ hp)
    · exact .tail _ (List.mem_append_right _ (.tail _ hp))⟩
theorem fr_wanted {h₀ h : Heap} {L : Addr} {m : Str → Option Value} {body inp drawn spare wanted : Value} (F : Fr h₀ L h m) (h0 : m (Str.ofString "wanted") = some wanted) (h1 : m (Str.ofString "good") = some (.bool true)) (h2 : m (Str.ofString "body") = some body) (h3 : m (Str.ofString "inp") = some inp) (h4 : m (Str.ofString "drawn") = some drawn) (h5 : m (Str.ofString "spare") = some spare) :
    ∃ u, Fr h₀ L h (fun y => if y = Str.ofString "wanted" then some wanted else mapB body inp drawn spare u y) := by
  refine ⟨m, ?_⟩
  have e : m = fun y => if y = Str.ofString "wanted" then some wanted else mapB body inp drawn spare m y := by
    funext y
    split
    · next h => rw [h, h0]
    · exact congrFun (mapB_of h1 h2 h3 h4 h5) y
  rw [← e]; exact F
theorem allLt_all {d : Addr} {l : List (Addr × Obj)} (h : AllLt d l) : ∀ p ∈ l, p.1 ≠ d := by
  induction l with
  | nil => exact fun _ h => (nomatch h)
  | cons q r ih => exact fun p hp => (List.mem_cons.mp hp).elim (fun e => e ▸ Nat.ne_of_lt h.1) fun hp => ih h.2 p hp
def Mark : Prop := True
set_option maxHeartbeats 2000000 in
theorem w47 : True := by
  (k_with "exec Assign" => ((k_here; (with_reducible show wpAny _ _ (exec (Stmt.Assign [Expr.Name ("inp" : Str) _] _ _) _) _ _ _); (fail_if_success (have : Mark := by assumption)); refine Halt.get ?_)))
  (k_with "binaryOp Add bytes bytes" => ((k_here; k_dflt (refine KBa.add_K (by assumption) (by assumption) (by first | omega | (rw [List.length_append]; omega)) ?_); intro _ _ kbaApp)))
  (k_with "call builtin:len" => ((k_here; (with_reducible show wpAny _ _ (call (Value.builtin "len") [Value.bytes _ _]) _ _ _); refine KBw.len_K (by assumption) (by first | omega | (rw [List.length_append]; omega)) ?_)))
  (k_with "exec For Tuple Name cons nil" => ((k_here; refine Halt.get ?_)))
  trivial
theorem seg_M {w : World} {base h₀ : Heap} {mean : ExcName → Option Value} {mg mb : Str → Option Value} (C : LawC w base h₀ mean mg mb) {cn : Str} {L f : Addr} {ccd : Value} {s : Shared} {Q : Flow → Shared → Prop} {Q₁ E₁ : Value → Shared → Prop}
    {its : List (Bool × Int)} {bb : Array UInt8} {t : Tok} {vals : List Value} {c : Nat} {Wa D : Addr} {script : Value} {u : Str → Option Value} {tl rest0 : List (Addr × Obj)} {ys : List Value} {zs : List Int}
    (hits : its.length ≤ 30) (R : Row its bb vals (tl ++ (D, LCg.lst ys) :: rest0) Wa)
    (hy : IntsAre ys zs) (hz : ∀ n ∈ zs, 0 ≤ n ∧ n < 1099511627776) (hlen : zs.length ≤ 14)
    (F : Fr h₀ L s.heap (mapA (.bytes bb t) (.ref Wa) (.ref D) script u))
    (N : News h₀ L s.heap ((Wa, PySem.W.listOf vals.toArray c) :: (tl ++ (D, LCg.lst ys) :: rest0)))
    (ret : ∀ h' tk' u' rest', Fr h₀ L h' u' → News h₀ L h' rest' → Q (.ret (.bool true)) { s with heap := h', toks := tk' }) :
    wpAny (model PySem.Challenge.rw_sa0222_01.row.prog w) (callerA.deeper (envOf cn fS31 L f ccd)) (execs rM (envOf cn fS31 L f ccd)) Q (lvE w cn L f ccd Q₁ E₁) s := by
  have C' := C
  obtain ⟨B, X, TT, XB, TB⟩ := C'
  have hyl := hy.length
  obtain ⟨r1, hr1, N1⟩ := news_split N
  clear N
  revert X
  k_fill
  intro X
  (try k_fold)
  k_steps
  refine Halt.mk ?_
  rename KBa.In _ => hin
  rename News _ _ _ _ => N2
  rename Fr _ _ _ _ => F2
  obtain ⟨sp, sb, hsl, hsb, F3⟩ := pack_spare hin (by rw [List.length_map]; exact Nat.le_trans (List.length_filter_le ..) (by rw [List.length_take]; exact Nat.min_le_left ..)) F2
  clear F2 hin
  have hbi := R.hi
  obtain ⟨hz1, hz2⟩ := R.small (by omega : its.length ≤ 40)
  have N3 := News.sub N2 (fun p hp => .tail _ hp)
  clear N2
  have mk : Mark := trivial
  k_steps
  refine Halt.mk ?_
  rename News _ _ _ _ => kN
  rename Fr _ _ _ _ => kF
  rename @LT.lt Nat _ _ _ => l2
  rename _ ∧ AllLt _ _ => l1
  subst hr1
  have hoff := allLt_all (show AllLt _ ((D, LCg.lst ys) :: (Wa, PySem.W.listOf vals.toArray c) :: (tl ++ rest0)) from l1)
  have hR : ∀ p ∈ (D, LCg.lst ys) :: (tl ++ rest0), p ∈ tl ++ (D, LCg.lst ys) :: rest0 := fun p hp => by
    rcases List.mem_cons.mp hp with rfl | hp
    · exact List.mem_append_right _ (.head _)
    rcases List.mem_append.mp hp with hp | hp
    · exact List.mem_append_left _ hp
    · exact List.mem_append_right _ (.tail _ hp)
  have R2 : Row its bb vals ((D, LCg.lst ys) :: (tl ++ rest0)) Wa := R.more (fun p hp => by
    rcases List.mem_append.mp hp with hp | hp
    · exact .tail _ (List.mem_append_left _ hp)
    rcases List.mem_cons.mp hp with rfl | hp
    · exact .head _
    · exact .tail _ (List.mem_append_right _ hp)) fun p hp => R.off p (hR p hp)
  have hoff2 : ∀ p ∈ (D, LCg.lst ys) :: (tl ++ rest0), p.1 ≠ _ := fun p hp => hoff p (by
    rcases List.mem_cons.mp hp with rfl | hp
    · exact .head _
    · exact .tail _ (.tail _ hp))
  obtain ⟨u9, kF9⟩ := fr_wanted (wanted := .ref Wa) (body := .bytes bb t) kF rfl rfl rfl rfl rfl rfl
  have kN9 := News.sub kN (l' := (Wa, PySem.W.listOf vals.toArray c) :: _ :: _ :: (D, LCg.lst ys) :: (tl ++ rest0)) (fun p hp => by
    rcases List.mem_cons.mp hp with rfl | hp
    · exact .tail _ (.tail _ (.tail _ (.head _)))
    rcases List.mem_cons.mp hp with rfl | hp
    · exact .head _
    rcases List.mem_cons.mp hp with rfl | hp
    · exact .tail _ (.head _)
    rcases List.mem_cons.mp hp with rfl | hp
    · exact .tail _ (.tail _ (.head _))
    · exact .tail _ (.tail _ (.tail _ (.tail _ hp))))
  have hb9 := kbaApp
  rw [List.append_assoc] at hb9
  refine seg_B C R2 (by omega) hsl hb9 (Nat.ne_of_gt l2) (hoff _ (.tail _ (.head _))) hoff2 kF9 kN9 ?_
  intro h' tk' t2' u' F' N'
  dsimp only
  have hlen9 : (sp ++ (enc its ++ sp)).length = 2 * sp.length + (enc its).length := by rw [List.length_append, List.length_append]; omega
  exact seg_E C { ne := Nat.ne_of_gt l2, off := hoff2, kb := hb9, lo := by omega, le := Int.le_refl _, hi := by rw [hlen9]; omega, size := by rw [hlen9]; omega } (by rw [hbi]; exact hz1) hsb hsl hy hz hlen F' N' ret

end
section


theorem w48 : True := by
  k_with_none
  (k_with "call ref" => ((k_here; refine wpAny_call ?_; k_dflt (walk_at "mine enterF"))))
  (k_with "call type:bytes" => ((k_here; (with_reducible show wpAny _ _ (call (Value.type "bytes") [Value.ref _]) _ _ _); k_dflt (refine' Mine.call_bytes_tuple (by k_asm) (by k_asm) (by rfl) (by exact News.isTup (by k_asm) (by k_mem)) (by kba_listInts) ?_ (by kba_size) ?_; rotate_left); intro _ _ _ F' N' kbaIn)))
  (k_with "exec Raise some none" => ((k_here; (with_reducible show wpAny _ _ (exec (Stmt.Raise (some (Expr.Call (Expr.Name ("BadSig" : Str) _) _ _ _)) none _) _) _ _ _); k_dflt (refine Raise_own (C := 63) rfl ?_))))
  (k_with "exec Raise some none" => ((k_here; (with_reducible show wpAny _ _ (exec (Stmt.Raise (some (Expr.Call (Expr.Name ("BadImage" : Str) _) _ _ _)) none _) _) _ _ _); k_dflt (refine Raise_own (C := 51) rfl ?_))))
  (k_with "call ref" => ((k_here; (with_reducible show wpAny _ _ (call (Value.ref _) [_, _]) (RaisableX _ _) _ _); k_dflt (refine' raise_call _ _ _ _ (by first | exact excC_63 _ | exact excC_51 _) (by k_asm) (by k_asm) (by k_asm) (by k_asm) (by k_asm) (by exact rfl) (by ktr_room) (by ktr_units) ?_; k_whole; intro h' tk' e' t' d' F' N' hne' hnt'; (try dsimp only)))))
  (k_with "leaving ref" => ((k_here; first
  | (refine' leave_mine (by assumption) (by assumption) (by assumption) (by assumption) (by assumption) ?_; k_whole; intro h' R' U'; (try dsimp only))
  | (refine' leave_onS (by assumption) (by assumption) (by assumption) (by assumption) ?_; k_whole; intro h' R' RK' U'; (try dsimp only)))))
  (k_with "binaryOp Pow int int" => ((k_here; dsimp only; walk_at "binaryOp Pow int int")))
  (k_with "mine k_all" => (first | assumption | exact ne_lt (by assumption) | exact ne_succ (by assumption) | exact ne_lt (allLt_mem (And.right (by assumption))) | exact ne_lt (allLt_mem (And.right (And.right (by assumption))))))
  (k_with "eval Call" => ((k_here; (with_reducible show wpAny _ _ (eval (Expr.Call (Expr.Name ("_law_value" : Str) _) _ _ _) _) _ _ _); k_dflt (refine Call_Name (by rfl) ?_))))
  (k_with "eval Call" => ((k_here; (with_reducible show wpAny _ _ (eval (Expr.Call (Expr.Name ("_law_octets" : Str) _) _ _ _) _) _ _ _); k_dflt (refine Call_Name (by rfl) ?_))))
  (k_with "eval Call" => ((k_here; (with_reducible show wpAny _ _ (eval (Expr.Call (Expr.Name ("compress_uint" : Str) _) _ _ _) _) _ _ _); k_dflt (refine Call_Name (by rfl) ?_))))
  (k_with "eval Call" => ((k_here; (with_reducible show wpAny _ _ (eval (Expr.Call (Expr.Name ("compress_int" : Str) _) _ _ _) _) _ _ _); k_dflt (refine Call_Name (by rfl) ?_))))
  (k_with "call ref" => ((k_here; (with_reducible show wpAny _ _ (call (Value.ref 257) [Value.int _ _]) _ _ _); k_dflt ((refine Pure.useR (by k_asm) (by k_asm) (by k_asm) (by k_asm) (by k_asm) (by first | exact rfl | assumption) (by ktr_room) (by ktr_units) (law_value_ok _ _ _ (by assumption)) ?_; k_whole; intro v' h' tk' R' F' N'; first | (obtain ⟨t', e'⟩ := R'; subst e') | (obtain ⟨z', hz', t', e'⟩ := R'; subst e') | subst R'; (try dsimp only); (try k_fold))); refine Halt.get ?_)))
  (k_with "call ref" => ((k_here; (with_reducible show wpAny _ _ (call (Value.ref 262) [Value.int _ _, Value.bool false]) _ _ _); k_dflt (first | (refine Pure.useR (by k_asm) (by k_asm) (by k_asm) (by k_asm) (by k_asm) (by first | exact rfl | assumption) (by ktr_room) (by ktr_units) (octets_in _ _ _ (by omega)) ?_; k_whole; intro v' h' tk' R' F' N'; first | (obtain ⟨t', e'⟩ := R'; subst e') | (obtain ⟨z', hz', t', e'⟩ := R'; subst e') | subst R'; (try dsimp only); (try k_fold)) | (refine Pure.useR (by k_asm) (by k_asm) (by k_asm) (by k_asm) (by k_asm) (by first | exact rfl | assumption) (by ktr_room) (by ktr_units) (oct_u_out _ _ _ (by assumption) (by omega)) ?_; k_whole; intro v' h' tk' R' F' N'; first | (obtain ⟨t', e'⟩ := R'; subst e') | (obtain ⟨z', hz', t', e'⟩ := R'; subst e') | subst R'; (try dsimp only); (try k_fold))))))
  (k_with "call ref" => ((k_here; (with_reducible show wpAny _ _ (call (Value.ref 262) [Value.int _ _, Value.bool true]) _ _ _); k_dflt (first | (refine Pure.useR (by k_asm) (by k_asm) (by k_asm) (by k_asm) (by k_asm) (by first | exact rfl | assumption) (by ktr_room) (by ktr_units) (oct_s_in _ _ _ (by omega)) ?_; k_whole; intro v' h' tk' R' F' N'; first | (obtain ⟨t', e'⟩ := R'; subst e') | (obtain ⟨z', hz', t', e'⟩ := R'; subst e') | subst R'; (try dsimp only); (try k_fold)) | (refine Pure.useR (by k_asm) (by k_asm) (by k_asm) (by k_asm) (by k_asm) (by first | exact rfl | assumption) (by ktr_room) (by ktr_units) (oct_s_out _ _ _ (by assumption) (by omega)) ?_; k_whole; intro v' h' tk' R' F' N'; first | (obtain ⟨t', e'⟩ := R'; subst e') | (obtain ⟨z', hz', t', e'⟩ := R'; subst e') | subst R'; (try dsimp only); (try k_fold))))))
  (k_with "call ref" => ((k_here; (with_reducible show wpAny _ _ (call (Value.ref 184) [Value.int _ _]) _ _ _); k_dflt (first
  | (refine' Call.useR (by k_asm) (by k_asm) (by k_asm) (by k_asm) (by k_asm) (by first | exact rfl | assumption) (by ktr_room) (by ktr_units) (comp_u_in _ _ _ _ (by omega)) ?_ ?_; rotate_left; (intro _ _ _ _ _ _ _ _ z'; exact z'.elim); rotate_right; (intro v' h' tk' nw' R' F' N'; obtain ⟨e0', ⟨t', e'⟩, hf'⟩ := R'; subst e0'; subst e'; (try dsimp only); (try k_fold)))
  | (refine' Call.useR (by k_asm) (by k_asm) (by k_asm) (by k_asm) (by k_asm) (by first | exact rfl | assumption) (by ktr_room) (by ktr_units) (comp_u_out _ _ _ _ (by omega)) ?_ ?_; (intro _ _ _ _ z'; exact z'.elim); (intro C' e' t' xs' h' tk' nw' g' Z' FG' R' U'; obtain ⟨e0', e1', hf'⟩ := Z'; subst e0'; subst e1'; (try dsimp only)))))))
  (k_with "call ref" => ((k_here; (with_reducible show wpAny _ _ (call (Value.ref 226) [Value.int _ _]) _ _ _); k_dflt (first
  | (refine' Call.useR (by k_asm) (by k_asm) (by k_asm) (by k_asm) (by k_asm) (by first | exact rfl | assumption) (by ktr_room) (by ktr_units) (comp_s_in _ _ _ _ (by omega)) ?_ ?_; rotate_left; (intro _ _ _ _ _ _ _ _ z'; exact z'.elim); rotate_right; (intro v' h' tk' nw' R' F' N'; obtain ⟨e0', ⟨t', e'⟩, hf'⟩ := R'; subst e0'; subst e'; (try dsimp only); (try k_fold)))
  | (refine' Call.useR (by k_asm) (by k_asm) (by k_asm) (by k_asm) (by k_asm) (by first | exact rfl | assumption) (by ktr_room) (by ktr_units) (comp_s_out _ _ _ _ (by omega)) ?_ ?_; (intro _ _ _ _ z'; exact z'.elim); (intro C' e' t' xs' h' tk' nw' g' Z' FG' R' U'; obtain ⟨e0', e1', hf'⟩ := Z'; subst e0'; subst e1'; (try dsimp only)))))))
  (k_with "binaryOp Add bytes bytes" => ((k_here; k_dflt (first
  | (refine' add_u (by assumption) (by (constructor <;> omega)) (by first | exact size_1 (by assumption) | exact size_2 (by assumption) (spread_le _ _)) ?_; intro _ _ kbaApp)
  | (refine' add_s (by assumption) (by (constructor <;> omega)) (by first | exact size_1 (by assumption) | exact size_2 (by assumption) (spread_le _ _)) ?_; intro _ _ kbaApp)))))
  (k_with "compareOp Eq bytes bytes" => ((k_here; refine eq_same ?_)))
  (k_with "call builtin:list.append" => ((k_here; (with_reducible show wpAny _ _ (call (Value.builtin _) [Value.ref _, _]) _ _ _); k_dflt (refine' append_K (by k_asm) (by k_asm) (by k_upd) ?_ (by (rw [PySem.sizeLine_eq]; first | (show (List.toArray _).size ≤ _; rw [List.size_toArray]; omega) | (rw [Array.size_push, List.size_toArray]; omega))); k_whole; intro h' F' N'; (try dsimp only at N')))))
  (k_with "exec For" => ((k_here; (with_reducible show wpAny _ _ (exec (Stmt.For (Expr.Name ("n" : Str) _) _ _ [] _) _) _ _ _); refine Halt.get ?_)))
  (k_with "exec For Name BinOp" => ((k_here; (with_reducible show wpAny _ _ (exec (Stmt.For (Expr.Name ("n" : Str) _) _ _ [] _) _) _ _ _); refine Halt.get ?_)))
  (k_with "exec For Name BinOp cons nil" => ((k_here; (with_reducible show wpAny _ _ (exec (Stmt.For (Expr.Name ("n" : Str) _) _ _ [] _) _) _ _ _); refine Halt.get ?_)))
  trivial
theorem drawn_in (l : List Int) : ∀ n ∈ List.map (fun k' => Int.fmod k' (2 ^ Int.toNat 40)) (List.take 14 l), 0 ≤ n ∧ n < 1099511627776 := fun n hn => by
  obtain ⟨k, _, rfl⟩ := List.mem_map.mp hn
  exact ⟨Int.fmod_nonneg_of_pos _ (by decide), Int.fmod_lt_of_pos _ (by decide)⟩
theorem drawn_len (l : List Int) : (List.map (fun k' => Int.fmod k' (2 ^ Int.toNat 40)) (List.take 14 l)).length ≤ 14 := by rw [List.length_map, List.length_take]; exact Nat.min_le_left ..
set_option maxHeartbeats 2000000 in
theorem law_holds : PySem.Challenge.rw_sa0222_01.Holds := Mine.hd rfl rfl rfl (by
  k_fill
  intro w s₀ s₁ mg mb G Y fa o pm cd doc dV kV ho hd hcd hD hmg hg args vals as hpre hlay hrd hwl hlo
  have KX := kIn_of Y
  refine Ground.open G ?_
  intro T B D TE TW
  try (refine guard_noD D (by decide +kernel) ?_; clear D)
  obtain ⟨_, _, M⟩ := bmod_of_top T
  have TA := at_of_top T
  try (obtain ⟨_, _, he, B0⟩ := based_of_top T rfl hmg ho hd; have he' : cd = _ := he; subst he'; clear he)
  clear hmg
  wrow_args hpre hlay hrd hwl hlo
  all_goals (
    first | refine callC_kw (enter_call ?_) | refine enter_call ?_ | refine callC_kw (enter_callW ?_) | refine enter_callW ?_ | w_how
    w_top on
    try refine codeAny_mono ?_ (fun _ _ g => GoodW.toG g)
    have K0 := below_caller (Top.heap T)
    w_call any ho hd hcd hD T F
    clear hd TA
    k_drop)
  (all_goals try k_fold)
  k_steps
  refine Halt.mk ?_
  rename News _ _ _ _ => kN
  rename Fr _ _ _ _ => kF
  rename IntsAre ys _ => hI
  rename Ground _ _ _ _ _ _ _ _ _ => kG
  rename (Mine.K _).In _ => kX
  rename Top _ _ _ _ _ _ => kT
  have C : LawC _ _ _ _ _ _ := ⟨below_caller _, kX, kT, kX, kT⟩
  refine' seg_A C hI (drawn_in _) (drawn_len _) ?ne ?off0 (fr_mapA kF ?a0 ?a1 ?a2 ?a3 ?a4) kN ?ret
  case a2 => exact rfl
  case a3 => exact rfl
  case a0 => exact rfl
  case a1 => exact rfl
  case a4 => exact rfl
  case ne => exact Nat.ne_of_lt (by first | assumption | exact (And.left (by assumption)))
  case off0 => intro p hp; cases List.mem_singleton.mp hp; exact Nat.ne_of_lt (And.right (by assumption))
  case ret =>
    intro h' tk' its bb t vals c tl u' hits R F N
    dsimp only
    refine seg_M C hits R hI (drawn_in _) (drawn_len _) F N ?_
    intro h' tk' u' rest' F' N'
    dsimp only
    k_steps)

end
end Mine
theorem PySem.Challenge.cw_sa0222_01_holds : PySem.Challenge.rw_sa0222_01.Holds :=
  Mine.law_holds
