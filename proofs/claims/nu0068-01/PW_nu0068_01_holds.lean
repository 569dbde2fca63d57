import PyProof.Rows.All
import Wide.All
import OpenK.AllK
import Wide.FinOn
import Lean
import PySem.Challenge.RW_nu0068_01
open PySem PySem.W PyProof.Rows
set_option Elab.async false
namespace Mine
abbrev pg : Program := PySem.Challenge.pw_nu0068_01
def stAt (i : Nat) : Option Stmt := pg.main.body[i]?
def meAt (i j : Nat) : Option Stmt := match stAt i with
  | some (.ClassDef _ _ _ b _ _ _ _ _ _ _) => b[j]?
  | _ => none
def fdP : Stmt → Arguments
  | .FunctionDef _ a _ _ _ _ _ _ _ _ => a
  | _ => default
def fdB : Stmt → List Stmt
  | .FunctionDef _ _ b _ _ _ _ _ _ _ => b
  | _ => []
def fdS : Stmt → Scope
  | .FunctionDef _ _ _ _ _ _ s _ _ _ => s
  | _ => default
abbrev At {α : Type} (o : Option α) := {x : α // o = some x}
set_option maxRecDepth 100000
set_option maxHeartbeats 4000000
@[reducible] noncomputable def p_0 : At (fdP <$> stAt 0) := ⟨_, rfl⟩
@[reducible] noncomputable def b_0 : At (fdB <$> stAt 0) := ⟨_, rfl⟩
@[reducible] noncomputable def s_0 : At (fdS <$> stAt 0) := ⟨_, rfl⟩
@[reducible] noncomputable def p_3 : At (fdP <$> stAt 3) := ⟨_, rfl⟩
@[reducible] noncomputable def b_3 : At (fdB <$> stAt 3) := ⟨_, rfl⟩
@[reducible] noncomputable def s_3 : At (fdS <$> stAt 3) := ⟨_, rfl⟩
@[reducible] noncomputable def p_4 : At (fdP <$> stAt 4) := ⟨_, rfl⟩
@[reducible] noncomputable def b_4 : At (fdB <$> stAt 4) := ⟨_, rfl⟩
@[reducible] noncomputable def s_4 : At (fdS <$> stAt 4) := ⟨_, rfl⟩
@[reducible] noncomputable def p_6 : At (fdP <$> stAt 6) := ⟨_, rfl⟩
@[reducible] noncomputable def b_6 : At (fdB <$> stAt 6) := ⟨_, rfl⟩
@[reducible] noncomputable def s_6 : At (fdS <$> stAt 6) := ⟨_, rfl⟩
@[reducible] noncomputable def p_7 : At (fdP <$> stAt 7) := ⟨_, rfl⟩
@[reducible] noncomputable def b_7 : At (fdB <$> stAt 7) := ⟨_, rfl⟩
@[reducible] noncomputable def s_7 : At (fdS <$> stAt 7) := ⟨_, rfl⟩
@[reducible] noncomputable def p_8 : At (fdP <$> stAt 8) := ⟨_, rfl⟩
@[reducible] noncomputable def b_8 : At (fdB <$> stAt 8) := ⟨_, rfl⟩
@[reducible] noncomputable def s_8 : At (fdS <$> stAt 8) := ⟨_, rfl⟩
@[reducible] noncomputable def p_9 : At (fdP <$> stAt 9) := ⟨_, rfl⟩
@[reducible] noncomputable def b_9 : At (fdB <$> stAt 9) := ⟨_, rfl⟩
@[reducible] noncomputable def s_9 : At (fdS <$> stAt 9) := ⟨_, rfl⟩
@[reducible] noncomputable def p_10 : At (fdP <$> stAt 10) := ⟨_, rfl⟩
@[reducible] noncomputable def b_10 : At (fdB <$> stAt 10) := ⟨_, rfl⟩
@[reducible] noncomputable def s_10 : At (fdS <$> stAt 10) := ⟨_, rfl⟩
@[reducible] noncomputable def p_11 : At (fdP <$> stAt 11) := ⟨_, rfl⟩
@[reducible] noncomputable def b_11 : At (fdB <$> stAt 11) := ⟨_, rfl⟩
@[reducible] noncomputable def s_11 : At (fdS <$> stAt 11) := ⟨_, rfl⟩
@[reducible] noncomputable def p_13_0 : At (fdP <$> meAt 13 0) := ⟨_, rfl⟩
@[reducible] noncomputable def b_13_0 : At (fdB <$> meAt 13 0) := ⟨_, rfl⟩
@[reducible] noncomputable def s_13_0 : At (fdS <$> meAt 13 0) := ⟨_, rfl⟩
@[reducible] noncomputable def p_13_1 : At (fdP <$> meAt 13 1) := ⟨_, rfl⟩
@[reducible] noncomputable def b_13_1 : At (fdB <$> meAt 13 1) := ⟨_, rfl⟩
@[reducible] noncomputable def s_13_1 : At (fdS <$> meAt 13 1) := ⟨_, rfl⟩
@[reducible] noncomputable def p_13_2 : At (fdP <$> meAt 13 2) := ⟨_, rfl⟩
@[reducible] noncomputable def b_13_2 : At (fdB <$> meAt 13 2) := ⟨_, rfl⟩
@[reducible] noncomputable def s_13_2 : At (fdS <$> meAt 13 2) := ⟨_, rfl⟩
@[reducible] noncomputable def p_15_0 : At (fdP <$> meAt 15 0) := ⟨_, rfl⟩
@[reducible] noncomputable def b_15_0 : At (fdB <$> meAt 15 0) := ⟨_, rfl⟩
@[reducible] noncomputable def s_15_0 : At (fdS <$> meAt 15 0) := ⟨_, rfl⟩
@[reducible] noncomputable def p_18_0 : At (fdP <$> meAt 18 0) := ⟨_, rfl⟩
@[reducible] noncomputable def b_18_0 : At (fdB <$> meAt 18 0) := ⟨_, rfl⟩
@[reducible] noncomputable def s_18_0 : At (fdS <$> meAt 18 0) := ⟨_, rfl⟩
@[reducible] noncomputable def p_18_1 : At (fdP <$> meAt 18 1) := ⟨_, rfl⟩
@[reducible] noncomputable def b_18_1 : At (fdB <$> meAt 18 1) := ⟨_, rfl⟩
@[reducible] noncomputable def s_18_1 : At (fdS <$> meAt 18 1) := ⟨_, rfl⟩
@[reducible] noncomputable def p_18_2 : At (fdP <$> meAt 18 2) := ⟨_, rfl⟩
@[reducible] noncomputable def b_18_2 : At (fdB <$> meAt 18 2) := ⟨_, rfl⟩
@[reducible] noncomputable def s_18_2 : At (fdS <$> meAt 18 2) := ⟨_, rfl⟩
@[reducible] noncomputable def p_18_3 : At (fdP <$> meAt 18 3) := ⟨_, rfl⟩
@[reducible] noncomputable def b_18_3 : At (fdB <$> meAt 18 3) := ⟨_, rfl⟩
@[reducible] noncomputable def s_18_3 : At (fdS <$> meAt 18 3) := ⟨_, rfl⟩
@[reducible] noncomputable def p_18_4 : At (fdP <$> meAt 18 4) := ⟨_, rfl⟩
@[reducible] noncomputable def b_18_4 : At (fdB <$> meAt 18 4) := ⟨_, rfl⟩
@[reducible] noncomputable def s_18_4 : At (fdS <$> meAt 18 4) := ⟨_, rfl⟩
@[reducible] noncomputable def p_18_5 : At (fdP <$> meAt 18 5) := ⟨_, rfl⟩
@[reducible] noncomputable def b_18_5 : At (fdB <$> meAt 18 5) := ⟨_, rfl⟩
@[reducible] noncomputable def s_18_5 : At (fdS <$> meAt 18 5) := ⟨_, rfl⟩
@[reducible] noncomputable def p_18_6 : At (fdP <$> meAt 18 6) := ⟨_, rfl⟩
@[reducible] noncomputable def b_18_6 : At (fdB <$> meAt 18 6) := ⟨_, rfl⟩
@[reducible] noncomputable def s_18_6 : At (fdS <$> meAt 18 6) := ⟨_, rfl⟩
@[reducible] noncomputable def p_18_7 : At (fdP <$> meAt 18 7) := ⟨_, rfl⟩
@[reducible] noncomputable def b_18_7 : At (fdB <$> meAt 18 7) := ⟨_, rfl⟩
@[reducible] noncomputable def s_18_7 : At (fdS <$> meAt 18 7) := ⟨_, rfl⟩
@[reducible] noncomputable def p_18_8 : At (fdP <$> meAt 18 8) := ⟨_, rfl⟩
@[reducible] noncomputable def b_18_8 : At (fdB <$> meAt 18 8) := ⟨_, rfl⟩
@[reducible] noncomputable def s_18_8 : At (fdS <$> meAt 18 8) := ⟨_, rfl⟩
@[reducible] noncomputable def p_18_9 : At (fdP <$> meAt 18 9) := ⟨_, rfl⟩
@[reducible] noncomputable def b_18_9 : At (fdB <$> meAt 18 9) := ⟨_, rfl⟩
@[reducible] noncomputable def s_18_9 : At (fdS <$> meAt 18 9) := ⟨_, rfl⟩
@[reducible] noncomputable def p_18_10 : At (fdP <$> meAt 18 10) := ⟨_, rfl⟩
@[reducible] noncomputable def b_18_10 : At (fdB <$> meAt 18 10) := ⟨_, rfl⟩
@[reducible] noncomputable def s_18_10 : At (fdS <$> meAt 18 10) := ⟨_, rfl⟩
@[reducible] noncomputable def p_18_11 : At (fdP <$> meAt 18 11) := ⟨_, rfl⟩
@[reducible] noncomputable def b_18_11 : At (fdB <$> meAt 18 11) := ⟨_, rfl⟩
@[reducible] noncomputable def s_18_11 : At (fdS <$> meAt 18 11) := ⟨_, rfl⟩
@[reducible] noncomputable def p_21_0 : At (fdP <$> meAt 21 0) := ⟨_, rfl⟩
@[reducible] noncomputable def b_21_0 : At (fdB <$> meAt 21 0) := ⟨_, rfl⟩
@[reducible] noncomputable def s_21_0 : At (fdS <$> meAt 21 0) := ⟨_, rfl⟩
@[reducible] noncomputable def p_22_0 : At (fdP <$> meAt 22 0) := ⟨_, rfl⟩
@[reducible] noncomputable def b_22_0 : At (fdB <$> meAt 22 0) := ⟨_, rfl⟩
@[reducible] noncomputable def s_22_0 : At (fdS <$> meAt 22 0) := ⟨_, rfl⟩
@[reducible] noncomputable def p_22_1 : At (fdP <$> meAt 22 1) := ⟨_, rfl⟩
@[reducible] noncomputable def b_22_1 : At (fdB <$> meAt 22 1) := ⟨_, rfl⟩
@[reducible] noncomputable def s_22_1 : At (fdS <$> meAt 22 1) := ⟨_, rfl⟩
@[reducible] noncomputable def p_22_2 : At (fdP <$> meAt 22 2) := ⟨_, rfl⟩
@[reducible] noncomputable def b_22_2 : At (fdB <$> meAt 22 2) := ⟨_, rfl⟩
@[reducible] noncomputable def s_22_2 : At (fdS <$> meAt 22 2) := ⟨_, rfl⟩
@[reducible] noncomputable def p_22_3 : At (fdP <$> meAt 22 3) := ⟨_, rfl⟩
@[reducible] noncomputable def b_22_3 : At (fdB <$> meAt 22 3) := ⟨_, rfl⟩
@[reducible] noncomputable def s_22_3 : At (fdS <$> meAt 22 3) := ⟨_, rfl⟩
@[reducible] noncomputable def p_22_4 : At (fdP <$> meAt 22 4) := ⟨_, rfl⟩
@[reducible] noncomputable def b_22_4 : At (fdB <$> meAt 22 4) := ⟨_, rfl⟩
@[reducible] noncomputable def s_22_4 : At (fdS <$> meAt 22 4) := ⟨_, rfl⟩
@[reducible] noncomputable def p_22_5 : At (fdP <$> meAt 22 5) := ⟨_, rfl⟩
@[reducible] noncomputable def b_22_5 : At (fdB <$> meAt 22 5) := ⟨_, rfl⟩
@[reducible] noncomputable def s_22_5 : At (fdS <$> meAt 22 5) := ⟨_, rfl⟩
@[reducible] noncomputable def p_22_6 : At (fdP <$> meAt 22 6) := ⟨_, rfl⟩
@[reducible] noncomputable def b_22_6 : At (fdB <$> meAt 22 6) := ⟨_, rfl⟩
@[reducible] noncomputable def s_22_6 : At (fdS <$> meAt 22 6) := ⟨_, rfl⟩
@[reducible] noncomputable def p_22_7 : At (fdP <$> meAt 22 7) := ⟨_, rfl⟩
@[reducible] noncomputable def b_22_7 : At (fdB <$> meAt 22 7) := ⟨_, rfl⟩
@[reducible] noncomputable def s_22_7 : At (fdS <$> meAt 22 7) := ⟨_, rfl⟩
@[reducible] noncomputable def p_22_8 : At (fdP <$> meAt 22 8) := ⟨_, rfl⟩
@[reducible] noncomputable def b_22_8 : At (fdB <$> meAt 22 8) := ⟨_, rfl⟩
@[reducible] noncomputable def s_22_8 : At (fdS <$> meAt 22 8) := ⟨_, rfl⟩
@[reducible] noncomputable def p_22_9 : At (fdP <$> meAt 22 9) := ⟨_, rfl⟩
@[reducible] noncomputable def b_22_9 : At (fdB <$> meAt 22 9) := ⟨_, rfl⟩
@[reducible] noncomputable def s_22_9 : At (fdS <$> meAt 22 9) := ⟨_, rfl⟩
@[reducible] noncomputable def p_22_10 : At (fdP <$> meAt 22 10) := ⟨_, rfl⟩
@[reducible] noncomputable def b_22_10 : At (fdB <$> meAt 22 10) := ⟨_, rfl⟩
@[reducible] noncomputable def s_22_10 : At (fdS <$> meAt 22 10) := ⟨_, rfl⟩
@[reducible] noncomputable def p_22_11 : At (fdP <$> meAt 22 11) := ⟨_, rfl⟩
@[reducible] noncomputable def b_22_11 : At (fdB <$> meAt 22 11) := ⟨_, rfl⟩
@[reducible] noncomputable def s_22_11 : At (fdS <$> meAt 22 11) := ⟨_, rfl⟩
@[reducible] noncomputable def p_22_12 : At (fdP <$> meAt 22 12) := ⟨_, rfl⟩
@[reducible] noncomputable def b_22_12 : At (fdB <$> meAt 22 12) := ⟨_, rfl⟩
@[reducible] noncomputable def s_22_12 : At (fdS <$> meAt 22 12) := ⟨_, rfl⟩
@[reducible] noncomputable def p_22_13 : At (fdP <$> meAt 22 13) := ⟨_, rfl⟩
@[reducible] noncomputable def b_22_13 : At (fdB <$> meAt 22 13) := ⟨_, rfl⟩
@[reducible] noncomputable def s_22_13 : At (fdS <$> meAt 22 13) := ⟨_, rfl⟩
@[reducible] noncomputable def p_22_14 : At (fdP <$> meAt 22 14) := ⟨_, rfl⟩
@[reducible] noncomputable def b_22_14 : At (fdB <$> meAt 22 14) := ⟨_, rfl⟩
@[reducible] noncomputable def s_22_14 : At (fdS <$> meAt 22 14) := ⟨_, rfl⟩
@[reducible] noncomputable def p_22_15 : At (fdP <$> meAt 22 15) := ⟨_, rfl⟩
@[reducible] noncomputable def b_22_15 : At (fdB <$> meAt 22 15) := ⟨_, rfl⟩
@[reducible] noncomputable def s_22_15 : At (fdS <$> meAt 22 15) := ⟨_, rfl⟩
@[reducible] noncomputable def p_22_16 : At (fdP <$> meAt 22 16) := ⟨_, rfl⟩
@[reducible] noncomputable def b_22_16 : At (fdB <$> meAt 22 16) := ⟨_, rfl⟩
@[reducible] noncomputable def s_22_16 : At (fdS <$> meAt 22 16) := ⟨_, rfl⟩
@[reducible] noncomputable def p_22_17 : At (fdP <$> meAt 22 17) := ⟨_, rfl⟩
@[reducible] noncomputable def b_22_17 : At (fdB <$> meAt 22 17) := ⟨_, rfl⟩
@[reducible] noncomputable def s_22_17 : At (fdS <$> meAt 22 17) := ⟨_, rfl⟩
@[reducible] noncomputable def p_22_18 : At (fdP <$> meAt 22 18) := ⟨_, rfl⟩
@[reducible] noncomputable def b_22_18 : At (fdB <$> meAt 22 18) := ⟨_, rfl⟩
@[reducible] noncomputable def s_22_18 : At (fdS <$> meAt 22 18) := ⟨_, rfl⟩
@[reducible] noncomputable def p_22_19 : At (fdP <$> meAt 22 19) := ⟨_, rfl⟩
@[reducible] noncomputable def b_22_19 : At (fdB <$> meAt 22 19) := ⟨_, rfl⟩
@[reducible] noncomputable def s_22_19 : At (fdS <$> meAt 22 19) := ⟨_, rfl⟩
@[reducible] noncomputable def p_22_20 : At (fdP <$> meAt 22 20) := ⟨_, rfl⟩
@[reducible] noncomputable def b_22_20 : At (fdB <$> meAt 22 20) := ⟨_, rfl⟩
@[reducible] noncomputable def s_22_20 : At (fdS <$> meAt 22 20) := ⟨_, rfl⟩
@[reducible] noncomputable def p_22_21 : At (fdP <$> meAt 22 21) := ⟨_, rfl⟩
@[reducible] noncomputable def b_22_21 : At (fdB <$> meAt 22 21) := ⟨_, rfl⟩
@[reducible] noncomputable def s_22_21 : At (fdS <$> meAt 22 21) := ⟨_, rfl⟩
@[reducible] noncomputable def p_22_22 : At (fdP <$> meAt 22 22) := ⟨_, rfl⟩
@[reducible] noncomputable def b_22_22 : At (fdB <$> meAt 22 22) := ⟨_, rfl⟩
@[reducible] noncomputable def s_22_22 : At (fdS <$> meAt 22 22) := ⟨_, rfl⟩
@[reducible] noncomputable def p_22_23 : At (fdP <$> meAt 22 23) := ⟨_, rfl⟩
@[reducible] noncomputable def b_22_23 : At (fdB <$> meAt 22 23) := ⟨_, rfl⟩
@[reducible] noncomputable def s_22_23 : At (fdS <$> meAt 22 23) := ⟨_, rfl⟩
@[reducible] noncomputable def p_22_24 : At (fdP <$> meAt 22 24) := ⟨_, rfl⟩
@[reducible] noncomputable def b_22_24 : At (fdB <$> meAt 22 24) := ⟨_, rfl⟩
@[reducible] noncomputable def s_22_24 : At (fdS <$> meAt 22 24) := ⟨_, rfl⟩
@[reducible] noncomputable def p_24 : At (fdP <$> stAt 24) := ⟨_, rfl⟩
@[reducible] noncomputable def b_24 : At (fdB <$> stAt 24) := ⟨_, rfl⟩
@[reducible] noncomputable def s_24 : At (fdS <$> stAt 24) := ⟨_, rfl⟩
@[reducible] noncomputable def p_25 : At (fdP <$> stAt 25) := ⟨_, rfl⟩
@[reducible] noncomputable def b_25 : At (fdB <$> stAt 25) := ⟨_, rfl⟩
@[reducible] noncomputable def s_25 : At (fdS <$> stAt 25) := ⟨_, rfl⟩
@[reducible] noncomputable def p_26 : At (fdP <$> stAt 26) := ⟨_, rfl⟩
@[reducible] noncomputable def b_26 : At (fdB <$> stAt 26) := ⟨_, rfl⟩
@[reducible] noncomputable def s_26 : At (fdS <$> stAt 26) := ⟨_, rfl⟩
@[reducible] noncomputable def p_27 : At (fdP <$> stAt 27) := ⟨_, rfl⟩
@[reducible] noncomputable def b_27 : At (fdB <$> stAt 27) := ⟨_, rfl⟩
@[reducible] noncomputable def s_27 : At (fdS <$> stAt 27) := ⟨_, rfl⟩
@[reducible] noncomputable def p_28 : At (fdP <$> stAt 28) := ⟨_, rfl⟩
@[reducible] noncomputable def b_28 : At (fdB <$> stAt 28) := ⟨_, rfl⟩
@[reducible] noncomputable def s_28 : At (fdS <$> stAt 28) := ⟨_, rfl⟩
@[reducible] noncomputable def p_29 : At (fdP <$> stAt 29) := ⟨_, rfl⟩
@[reducible] noncomputable def b_29 : At (fdB <$> stAt 29) := ⟨_, rfl⟩
@[reducible] noncomputable def s_29 : At (fdS <$> stAt 29) := ⟨_, rfl⟩
@[reducible] noncomputable def p_30 : At (fdP <$> stAt 30) := ⟨_, rfl⟩
@[reducible] noncomputable def b_30 : At (fdB <$> stAt 30) := ⟨_, rfl⟩
@[reducible] noncomputable def s_30 : At (fdS <$> stAt 30) := ⟨_, rfl⟩
@[reducible] noncomputable def p_31 : At (fdP <$> stAt 31) := ⟨_, rfl⟩
@[reducible] noncomputable def b_31 : At (fdB <$> stAt 31) := ⟨_, rfl⟩
@[reducible] noncomputable def s_31 : At (fdS <$> stAt 31) := ⟨_, rfl⟩
@[reducible] noncomputable def p_32 : At (fdP <$> stAt 32) := ⟨_, rfl⟩
@[reducible] noncomputable def b_32 : At (fdB <$> stAt 32) := ⟨_, rfl⟩
@[reducible] noncomputable def s_32 : At (fdS <$> stAt 32) := ⟨_, rfl⟩
@[reducible] noncomputable def p_33 : At (fdP <$> stAt 33) := ⟨_, rfl⟩
@[reducible] noncomputable def b_33 : At (fdB <$> stAt 33) := ⟨_, rfl⟩
@[reducible] noncomputable def s_33 : At (fdS <$> stAt 33) := ⟨_, rfl⟩
@[reducible] noncomputable def p_34 : At (fdP <$> stAt 34) := ⟨_, rfl⟩
@[reducible] noncomputable def b_34 : At (fdB <$> stAt 34) := ⟨_, rfl⟩
@[reducible] noncomputable def s_34 : At (fdS <$> stAt 34) := ⟨_, rfl⟩
noncomputable def KF : Params → Frag := fun P => 
  ((nat_lit 2), (Obj.mk Value.none Option.none (Data.dict (List.toArray [(DictEntry.mk (PyData.keyHash P (Str.ofString "type.__subclasses__.Exception.0")) (Value.str (Str.ofString "type.__subclasses__.Exception.0") 363) (Value.int 127 0)), (DictEntry.mk (PyData.keyHash P (Str.ofString "type.__subclasses__.Exception.n")) (Value.str (Str.ofString "type.__subclasses__.Exception.n") 364) (Value.int 1 0))]) 2) (List.toArray []))) ::
  ((nat_lit 3), (Obj.mk (Value.type "dict") Option.none (Data.dict (List.toArray [(DictEntry.mk (PyData.keyHash P (Str.ofString "__name__")) (Value.str (Str.ofString "__name__") 165) (Value.str (Str.ofString "law_nu0068_01") 812)), (DictEntry.mk (PyData.keyHash P (Str.ofString "__doc__")) (Value.str (Str.ofString "__doc__") 166) Value.none), (DictEntry.mk (PyData.keyHash P (Str.ofString "__package__")) (Value.str (Str.ofString "__package__") 167) Value.none), (DictEntry.mk (PyData.keyHash P (Str.ofString "__loader__")) (Value.str (Str.ofString "__loader__") 168) (Value.builtin "__main__.__loader__#opaque")), (DictEntry.mk (PyData.keyHash P (Str.ofString "__spec__")) (Value.str (Str.ofString "__spec__") 169) Value.none), (DictEntry.mk (PyData.keyHash P (Str.ofString "__annotations__")) (Value.str (Str.ofString "__annotations__") 170) (Value.ref 6)), (DictEntry.mk (PyData.keyHash P (Str.ofString "__builtins__")) (Value.str (Str.ofString "__builtins__") 171) (Value.ref 4)), (DictEntry.mk (PyData.keyHash P (Str.ofString "__file__")) (Value.str (Str.ofString "__file__") 173) (Value.str (Str.ofString "/claim/cut.py") 172)), (DictEntry.mk (PyData.keyHash P (Str.ofString "__cached__")) (Value.str (Str.ofString "__cached__") 174) Value.none), (DictEntry.mk (PyData.keyHash P (Str.ofString "_wall")) (Value.str (Str.ofString "_wall") 193) (Value.ref 21)), (DictEntry.mk (PyData.keyHash P (Str.ofString "SPACES")) (Value.str (Str.ofString "SPACES") 197) (Value.str (Str.ofString " \t\n\x0d") 196)), (DictEntry.mk (PyData.keyHash P (Str.ofString "is_space")) (Value.str (Str.ofString "is_space") 204) (Value.ref 28)), (DictEntry.mk (PyData.keyHash P (Str.ofString "space_split")) (Value.str (Str.ofString "space_split") 214) (Value.ref 35)), (DictEntry.mk (PyData.keyHash P (Str.ofString "walk_elements")) (Value.str (Str.ofString "walk_elements") 227) (Value.ref 42)), (DictEntry.mk (PyData.keyHash P (Str.ofString "id_of")) (Value.str (Str.ofString "id_of") 239) (Value.ref 49)), (DictEntry.mk (PyData.keyHash P (Str.ofString "id_table")) (Value.str (Str.ofString "id_table") 251) (Value.ref 56)), (DictEntry.mk (PyData.keyHash P (Str.ofString "references")) (Value.str (Str.ofString "references") 264) (Value.ref 63)), (DictEntry.mk (PyData.keyHash P (Str.ofString "broken_references")) (Value.str (Str.ofString "broken_references") 278) (Value.ref 70)), (DictEntry.mk (PyData.keyHash P (Str.ofString "referring")) (Value.str (Str.ofString "referring") 284) (Value.ref 75)), (DictEntry.mk (PyData.keyHash P (Str.ofString "AttributeRule")) (Value.str (Str.ofString "AttributeRule") 335) (Value.ref 106)), (DictEntry.mk (PyData.keyHash P (Str.ofString "MarkupError")) (Value.str (Str.ofString "MarkupError") 366) (Value.ref 127)), (DictEntry.mk (PyData.keyHash P (Str.ofString "TreeFault")) (Value.str (Str.ofString "TreeFault") 382) (Value.ref 140)), (DictEntry.mk (PyData.keyHash P (Str.ofString "Dtd")) (Value.str (Str.ofString "Dtd") 513) (Value.ref 234)), (DictEntry.mk (PyData.keyHash P (Str.ofString "PARENTS")) (Value.str (Str.ofString "PARENTS") 518) (Value.ref 239)), (DictEntry.mk (PyData.keyHash P (Str.ofString "NodeRow")) (Value.str (Str.ofString "NodeRow") 560) (Value.ref 256)), (DictEntry.mk (PyData.keyHash P (Str.ofString "Tree")) (Value.str (Str.ofString "Tree") 811) (Value.ref 445)), (DictEntry.mk (PyData.keyHash P (Str.ofString "_law_pool")) (Value.str (Str.ofString "_law_pool") 824) (Value.ref 456)), (DictEntry.mk (PyData.keyHash P (Str.ofString "_law_take")) (Value.str (Str.ofString "_law_take") 833) (Value.ref 463)), (DictEntry.mk (PyData.keyHash P (Str.ofString "_law_one")) (Value.str (Str.ofString "_law_one") 841) (Value.ref 470)), (DictEntry.mk (PyData.keyHash P (Str.ofString "_law_rules")) (Value.str (Str.ofString "_law_rules") 852) (Value.ref 477)), (DictEntry.mk (PyData.keyHash P (Str.ofString "_law_value")) (Value.str (Str.ofString "_law_value") 858) (Value.ref 482)), (DictEntry.mk (PyData.keyHash P (Str.ofString "_law_drawn")) (Value.str (Str.ofString "_law_drawn") 876) (Value.ref 489)), (DictEntry.mk (PyData.keyHash P (Str.ofString "_law_order")) (Value.str (Str.ofString "_law_order") 886) (Value.ref 496)), (DictEntry.mk (PyData.keyHash P (Str.ofString "_law_id")) (Value.str (Str.ofString "_law_id") 895) (Value.ref 503)), (DictEntry.mk (PyData.keyHash P (Str.ofString "_law_references")) (Value.str (Str.ofString "_law_references") 901) (Value.ref 508)), (DictEntry.mk (PyData.keyHash P (Str.ofString "_law_alike_right")) (Value.str (Str.ofString "_law_alike_right") 912) (Value.ref 515)), (DictEntry.mk (PyData.keyHash P (Str.ofString "law")) (Value.str (Str.ofString "law") 918) (Value.ref 520))]) 37) (List.toArray []))) ::
  ((nat_lit 15), (Obj.mk (Value.type "tuple") Option.none (Data.seq (List.toArray []) 0) (List.toArray []))) ::
  ((nat_lit 17), (Obj.mk (Value.type "tuple") Option.none (Data.seq (List.toArray [(Value.str (Str.ofString "k") 190)]) 0) (List.toArray []))) ::
  ((nat_lit 18), (Obj.mk (Value.type "tuple") Option.none (Data.seq (List.toArray []) 0) (List.toArray []))) ::
  ((nat_lit 20), (Obj.mk (Value.type "code") Option.none (Data.fields (List.toArray [(Value.str (Str.ofString "_wall") 187), (Value.str (Str.ofString "_wall") 188), (Value.str (Str.ofString "/claim/cut.py") 189), (Value.int 1 0), (Value.int 1 0), (Value.int 0 0), (Value.int 0 0), (Value.int 3 0), (Value.ref 15), (Value.bool Bool.true), (Value.int 181 0), (Value.ref 16), Value.none, (Value.ref 17), (Value.ref 18), (Value.ref 19), (Value.int 191 0), (Value.int 1 0), (Value.str (Str.ofString "/claim/cut.py") 192)])) (List.toArray []))) ::
  ((nat_lit 21), (Obj.mk (Value.type "function") Option.none (Data.func (FuncData.mk (Str.ofString "_wall") (Str.ofString "_wall") p_0.1 (.stmts b_0.1) s_0.1 3 [] Value.none Value.none Value.none (Value.str (Str.ofString "__main__") 164) Option.none (Value.ref 20) Value.none 0)) (List.toArray []))) ::
  ((nat_lit 22), (Obj.mk (Value.type "tuple") Option.none (Data.seq (List.toArray []) 0) (List.toArray []))) ::
  ((nat_lit 24), (Obj.mk (Value.type "tuple") Option.none (Data.seq (List.toArray [(Value.str (Str.ofString "sign") 201)]) 0) (List.toArray []))) ::
  ((nat_lit 25), (Obj.mk (Value.type "tuple") Option.none (Data.seq (List.toArray []) 0) (List.toArray []))) ::
  ((nat_lit 27), (Obj.mk (Value.type "code") Option.none (Data.fields (List.toArray [(Value.str (Str.ofString "is_space") 198), (Value.str (Str.ofString "is_space") 199), (Value.str (Str.ofString "/claim/cut.py") 200), (Value.int 6 0), (Value.int 1 0), (Value.int 0 0), (Value.int 0 0), (Value.int 3 0), (Value.ref 22), (Value.bool Bool.true), (Value.int 181 0), (Value.ref 23), Value.none, (Value.ref 24), (Value.ref 25), (Value.ref 26), (Value.int 202 0), (Value.int 6 0), (Value.str (Str.ofString "/claim/cut.py") 203)])) (List.toArray []))) ::
  ((nat_lit 28), (Obj.mk (Value.type "function") Option.none (Data.func (FuncData.mk (Str.ofString "is_space") (Str.ofString "is_space") p_3.1 (.stmts b_3.1) s_3.1 3 [] Value.none Value.none Value.none (Value.str (Str.ofString "markupmill.chars") 194) Option.none (Value.ref 27) Value.none 0)) (List.toArray []))) ::
  ((nat_lit 29), (Obj.mk (Value.type "tuple") Option.none (Data.seq (List.toArray []) 0) (List.toArray []))) ::
  ((nat_lit 31), (Obj.mk (Value.type "tuple") Option.none (Data.seq (List.toArray [(Value.str (Str.ofString "text") 208), (Value.str (Str.ofString "found") 209), (Value.str (Str.ofString "begin") 210), (Value.str (Str.ofString "place") 211)]) 0) (List.toArray []))) ::
  ((nat_lit 32), (Obj.mk (Value.type "tuple") Option.none (Data.seq (List.toArray []) 0) (List.toArray []))) ::
  ((nat_lit 34), (Obj.mk (Value.type "code") Option.none (Data.fields (List.toArray [(Value.str (Str.ofString "space_split") 205), (Value.str (Str.ofString "space_split") 206), (Value.str (Str.ofString "/claim/cut.py") 207), (Value.int 8 0), (Value.int 1 0), (Value.int 0 0), (Value.int 0 0), (Value.int 3 0), (Value.ref 29), (Value.bool Bool.true), (Value.int 181 0), (Value.ref 30), Value.none, (Value.ref 31), (Value.ref 32), (Value.ref 33), (Value.int 212 0), (Value.int 8 0), (Value.str (Str.ofString "/claim/cut.py") 213)])) (List.toArray []))) ::
  ((nat_lit 35), (Obj.mk (Value.type "function") Option.none (Data.func (FuncData.mk (Str.ofString "space_split") (Str.ofString "space_split") p_4.1 (.stmts b_4.1) s_4.1 3 [] Value.none Value.none Value.none (Value.str (Str.ofString "markupmill.chars") 194) Option.none (Value.ref 34) Value.none 0)) (List.toArray []))) ::
  ((nat_lit 36), (Obj.mk (Value.type "tuple") Option.none (Data.seq (List.toArray []) 0) (List.toArray []))) ::
  ((nat_lit 38), (Obj.mk (Value.type "tuple") Option.none (Data.seq (List.toArray [(Value.str (Str.ofString "tree") 220), (Value.str (Str.ofString "root") 221), (Value.str (Str.ofString "found") 222), (Value.str (Str.ofString "left") 223), (Value.str (Str.ofString "node") 224)]) 0) (List.toArray []))) ::
  ((nat_lit 39), (Obj.mk (Value.type "tuple") Option.none (Data.seq (List.toArray []) 0) (List.toArray []))) ::
  ((nat_lit 41), (Obj.mk (Value.type "code") Option.none (Data.fields (List.toArray [(Value.str (Str.ofString "walk_elements") 217), (Value.str (Str.ofString "walk_elements") 218), (Value.str (Str.ofString "/claim/cut.py") 219), (Value.int 17 0), (Value.int 2 0), (Value.int 0 0), (Value.int 0 0), (Value.int 3 0), (Value.ref 36), (Value.bool Bool.true), (Value.int 181 0), (Value.ref 37), Value.none, (Value.ref 38), (Value.ref 39), (Value.ref 40), (Value.int 225 0), (Value.int 17 0), (Value.str (Str.ofString "/claim/cut.py") 226)])) (List.toArray []))) ::
  ((nat_lit 42), (Obj.mk (Value.type "function") Option.none (Data.func (FuncData.mk (Str.ofString "walk_elements") (Str.ofString "walk_elements") p_6.1 (.stmts b_6.1) s_6.1 3 [] Value.none Value.none Value.none (Value.str (Str.ofString "markupmill.ids") 215) Option.none (Value.ref 41) Value.none 0)) (List.toArray []))) ::
  ((nat_lit 43), (Obj.mk (Value.type "tuple") Option.none (Data.seq (List.toArray []) 0) (List.toArray []))) ::
  ((nat_lit 45), (Obj.mk (Value.type "tuple") Option.none (Data.seq (List.toArray [(Value.str (Str.ofString "tree") 231), (Value.str (Str.ofString "element") 232), (Value.str (Str.ofString "dtd") 233), (Value.str (Str.ofString "name") 234), (Value.str (Str.ofString "attribute") 235), (Value.str (Str.ofString "parts") 236)]) 0) (List.toArray []))) ::
  ((nat_lit 46), (Obj.mk (Value.type "tuple") Option.none (Data.seq (List.toArray []) 0) (List.toArray []))) ::
  ((nat_lit 48), (Obj.mk (Value.type "code") Option.none (Data.fields (List.toArray [(Value.str (Str.ofString "id_of") 228), (Value.str (Str.ofString "id_of") 229), (Value.str (Str.ofString "/claim/cut.py") 230), (Value.int 25 0), (Value.int 3 0), (Value.int 0 0), (Value.int 0 0), (Value.int 3 0), (Value.ref 43), (Value.bool Bool.true), (Value.int 181 0), (Value.ref 44), Value.none, (Value.ref 45), (Value.ref 46), (Value.ref 47), (Value.int 237 0), (Value.int 25 0), (Value.str (Str.ofString "/claim/cut.py") 238)])) (List.toArray []))) ::
  ((nat_lit 49), (Obj.mk (Value.type "function") Option.none (Data.func (FuncData.mk (Str.ofString "id_of") (Str.ofString "id_of") p_7.1 (.stmts b_7.1) s_7.1 3 [] Value.none Value.none Value.none (Value.str (Str.ofString "markupmill.ids") 215) Option.none (Value.ref 48) Value.none 0)) (List.toArray []))) ::
  ((nat_lit 50), (Obj.mk (Value.type "tuple") Option.none (Data.seq (List.toArray []) 0) (List.toArray []))) ::
  ((nat_lit 52), (Obj.mk (Value.type "tuple") Option.none (Data.seq (List.toArray [(Value.str (Str.ofString "tree") 243), (Value.str (Str.ofString "root") 244), (Value.str (Str.ofString "dtd") 245), (Value.str (Str.ofString "found") 246), (Value.str (Str.ofString "element") 247), (Value.str (Str.ofString "told") 248)]) 0) (List.toArray []))) ::
  ((nat_lit 53), (Obj.mk (Value.type "tuple") Option.none (Data.seq (List.toArray []) 0) (List.toArray []))) ::
  ((nat_lit 55), (Obj.mk (Value.type "code") Option.none (Data.fields (List.toArray [(Value.str (Str.ofString "id_table") 240), (Value.str (Str.ofString "id_table") 241), (Value.str (Str.ofString "/claim/cut.py") 242), (Value.int 34 0), (Value.int 3 0), (Value.int 0 0), (Value.int 0 0), (Value.int 3 0), (Value.ref 50), (Value.bool Bool.true), (Value.int 181 0), (Value.ref 51), Value.none, (Value.ref 52), (Value.ref 53), (Value.ref 54), (Value.int 249 0), (Value.int 34 0), (Value.str (Str.ofString "/claim/cut.py") 250)])) (List.toArray []))) ::
  ((nat_lit 56), (Obj.mk (Value.type "function") Option.none (Data.func (FuncData.mk (Str.ofString "id_table") (Str.ofString "id_table") p_8.1 (.stmts b_8.1) s_8.1 3 [] Value.none Value.none Value.none (Value.str (Str.ofString "markupmill.ids") 215) Option.none (Value.ref 55) Value.none 0)) (List.toArray []))) ::
  ((nat_lit 57), (Obj.mk (Value.type "tuple") Option.none (Data.seq (List.toArray []) 0) (List.toArray []))) ::
  ((nat_lit 59), (Obj.mk (Value.type "tuple") Option.none (Data.seq (List.toArray [(Value.str (Str.ofString "tree") 255), (Value.str (Str.ofString "element") 256), (Value.str (Str.ofString "dtd") 257), (Value.str (Str.ofString "found") 258), (Value.str (Str.ofString "attribute") 259), (Value.str (Str.ofString "rule") 260), (Value.str (Str.ofString "name") 261)]) 0) (List.toArray []))) ::
  ((nat_lit 60), (Obj.mk (Value.type "tuple") Option.none (Data.seq (List.toArray []) 0) (List.toArray []))) ::
  ((nat_lit 62), (Obj.mk (Value.type "code") Option.none (Data.fields (List.toArray [(Value.str (Str.ofString "references") 252), (Value.str (Str.ofString "references") 253), (Value.str (Str.ofString "/claim/cut.py") 254), (Value.int 41 0), (Value.int 3 0), (Value.int 0 0), (Value.int 0 0), (Value.int 3 0), (Value.ref 57), (Value.bool Bool.true), (Value.int 181 0), (Value.ref 58), Value.none, (Value.ref 59), (Value.ref 60), (Value.ref 61), (Value.int 262 0), (Value.int 41 0), (Value.str (Str.ofString "/claim/cut.py") 263)])) (List.toArray []))) ::
  ((nat_lit 63), (Obj.mk (Value.type "function") Option.none (Data.func (FuncData.mk (Str.ofString "references") (Str.ofString "references") p_9.1 (.stmts b_9.1) s_9.1 3 [] Value.none Value.none Value.none (Value.str (Str.ofString "markupmill.ids") 215) Option.none (Value.ref 62) Value.none 0)) (List.toArray []))) ::
  ((nat_lit 64), (Obj.mk (Value.type "tuple") Option.none (Data.seq (List.toArray []) 0) (List.toArray []))) ::
  ((nat_lit 66), (Obj.mk (Value.type "tuple") Option.none (Data.seq (List.toArray [(Value.str (Str.ofString "tree") 268), (Value.str (Str.ofString "root") 269), (Value.str (Str.ofString "dtd") 270), (Value.str (Str.ofString "known") 271), (Value.str (Str.ofString "found") 272), (Value.str (Str.ofString "element") 273), (Value.str (Str.ofString "attribute") 274), (Value.str (Str.ofString "name") 275)]) 0) (List.toArray []))) ::
  ((nat_lit 67), (Obj.mk (Value.type "tuple") Option.none (Data.seq (List.toArray []) 0) (List.toArray []))) ::
  ((nat_lit 69), (Obj.mk (Value.type "code") Option.none (Data.fields (List.toArray [(Value.str (Str.ofString "broken_references") 265), (Value.str (Str.ofString "broken_references") 266), (Value.str (Str.ofString "/claim/cut.py") 267), (Value.int 49 0), (Value.int 3 0), (Value.int 0 0), (Value.int 0 0), (Value.int 3 0), (Value.ref 64), (Value.bool Bool.true), (Value.int 181 0), (Value.ref 65), Value.none, (Value.ref 66), (Value.ref 67), (Value.ref 68), (Value.int 276 0), (Value.int 49 0), (Value.str (Str.ofString "/claim/cut.py") 277)])) (List.toArray []))) ::
  ((nat_lit 70), (Obj.mk (Value.type "function") Option.none (Data.func (FuncData.mk (Str.ofString "broken_references") (Str.ofString "broken_references") p_10.1 (.stmts b_10.1) s_10.1 3 [] Value.none Value.none Value.none (Value.str (Str.ofString "markupmill.ids") 215) Option.none (Value.ref 69) Value.none 0)) (List.toArray []))) ::
  ((nat_lit 71), (Obj.mk (Value.type "tuple") Option.none (Data.seq (List.toArray []) 0) (List.toArray []))) ::
  ((nat_lit 74), (Obj.mk (Value.type "code") Option.none (Data.fields (List.toArray [(Value.str (Str.ofString "referring") 279), (Value.str (Str.ofString "referring") 280), (Value.str (Str.ofString "/claim/cut.py") 281), (Value.int 56 0), (Value.int 4 0), (Value.int 0 0), (Value.int 0 0), (Value.int 3 0), (Value.ref 71), (Value.bool Bool.true), (Value.int 181 0), (Value.ref 72), Value.none, Value.none, Value.none, (Value.ref 73), (Value.int 282 0), (Value.int 56 0), (Value.str (Str.ofString "/claim/cut.py") 283)])) (List.toArray []))) ::
  ((nat_lit 75), (Obj.mk (Value.type "function") Option.none (Data.func (FuncData.mk (Str.ofString "referring") (Str.ofString "referring") p_11.1 (.stmts b_11.1) s_11.1 3 [] Value.none Value.none Value.none (Value.str (Str.ofString "markupmill.ids") 215) Option.none (Value.ref 74) Value.none 0)) (List.toArray []))) ::
  ((nat_lit 83), (Obj.mk (Value.type "tuple") Option.none (Data.seq (List.toArray []) 0) (List.toArray []))) ::
  ((nat_lit 85), (Obj.mk (Value.type "tuple") Option.none (Data.seq (List.toArray [(Value.str (Str.ofString "self") 302), (Value.str (Str.ofString "kind") 303), (Value.str (Str.ofString "choices") 304), (Value.str (Str.ofString "mode") 305), (Value.str (Str.ofString "value") 306)]) 0) (List.toArray []))) ::
  ((nat_lit 86), (Obj.mk (Value.type "tuple") Option.none (Data.seq (List.toArray []) 0) (List.toArray []))) ::
  ((nat_lit 88), (Obj.mk (Value.type "code") Option.none (Data.fields (List.toArray [(Value.str (Str.ofString "__init__") 299), (Value.str (Str.ofString "AttributeRule.__init__") 300), (Value.str (Str.ofString "/claim/cut.py") 301), (Value.int 65 0), (Value.int 5 0), (Value.int 0 0), (Value.int 0 0), (Value.int 3 0), (Value.ref 83), (Value.bool Bool.true), (Value.int 181 0), (Value.ref 84), Value.none, (Value.ref 85), (Value.ref 86), (Value.ref 87), (Value.int 307 0), (Value.int 65 0), (Value.str (Str.ofString "/claim/cut.py") 308)])) (List.toArray []))) ::
  ((nat_lit 89), (Obj.mk (Value.type "function") Option.none (Data.func (FuncData.mk (Str.ofString "__init__") (Str.ofString "AttributeRule.__init__") p_13_0.1 (.stmts b_13_0.1) s_13_0.1 3 [] Value.none Value.none Value.none (Value.str (Str.ofString "markupmill.attribute_rules") 285) Option.none (Value.ref 88) Value.none 0)) (List.toArray []))) ::
  ((nat_lit 90), (Obj.mk (Value.type "tuple") Option.none (Data.seq (List.toArray []) 0) (List.toArray []))) ::
  ((nat_lit 92), (Obj.mk (Value.type "tuple") Option.none (Data.seq (List.toArray [(Value.str (Str.ofString "self") 313)]) 0) (List.toArray []))) ::
  ((nat_lit 93), (Obj.mk (Value.type "tuple") Option.none (Data.seq (List.toArray []) 0) (List.toArray []))) ::
  ((nat_lit 95), (Obj.mk (Value.type "code") Option.none (Data.fields (List.toArray [(Value.str (Str.ofString "row") 310), (Value.str (Str.ofString "AttributeRule.row") 311), (Value.str (Str.ofString "/claim/cut.py") 312), (Value.int 71 0), (Value.int 1 0), (Value.int 0 0), (Value.int 0 0), (Value.int 3 0), (Value.ref 90), (Value.bool Bool.true), (Value.int 181 0), (Value.ref 91), Value.none, (Value.ref 92), (Value.ref 93), (Value.ref 94), (Value.int 314 0), (Value.int 71 0), (Value.str (Str.ofString "/claim/cut.py") 315)])) (List.toArray []))) ::
  ((nat_lit 96), (Obj.mk (Value.type "function") Option.none (Data.func (FuncData.mk (Str.ofString "row") (Str.ofString "AttributeRule.row") p_13_1.1 (.stmts b_13_1.1) s_13_1.1 3 [] Value.none Value.none Value.none (Value.str (Str.ofString "markupmill.attribute_rules") 285) Option.none (Value.ref 95) Value.none 0)) (List.toArray []))) ::
  ((nat_lit 97), (Obj.mk (Value.type "tuple") Option.none (Data.seq (List.toArray []) 0) (List.toArray []))) ::
  ((nat_lit 99), (Obj.mk (Value.type "tuple") Option.none (Data.seq (List.toArray [(Value.str (Str.ofString "self") 320)]) 0) (List.toArray []))) ::
  ((nat_lit 100), (Obj.mk (Value.type "tuple") Option.none (Data.seq (List.toArray []) 0) (List.toArray []))) ::
  ((nat_lit 102), (Obj.mk (Value.type "code") Option.none (Data.fields (List.toArray [(Value.str (Str.ofString "has_value") 317), (Value.str (Str.ofString "AttributeRule.has_value") 318), (Value.str (Str.ofString "/claim/cut.py") 319), (Value.int 74 0), (Value.int 1 0), (Value.int 0 0), (Value.int 0 0), (Value.int 3 0), (Value.ref 97), (Value.bool Bool.true), (Value.int 181 0), (Value.ref 98), Value.none, (Value.ref 99), (Value.ref 100), (Value.ref 101), (Value.int 321 0), (Value.int 74 0), (Value.str (Str.ofString "/claim/cut.py") 322)])) (List.toArray []))) ::
  ((nat_lit 103), (Obj.mk (Value.type "function") Option.none (Data.func (FuncData.mk (Str.ofString "has_value") (Str.ofString "AttributeRule.has_value") p_13_2.1 (.stmts b_13_2.1) s_13_2.1 3 [] Value.none Value.none Value.none (Value.str (Str.ofString "markupmill.attribute_rules") 285) Option.none (Value.ref 102) Value.none 0)) (List.toArray []))) ::
  ((nat_lit 104), (Obj.mk (Value.type "tuple") Option.none (Data.seq (List.toArray [(Value.str (Str.ofString "choices") 324), (Value.str (Str.ofString "kind") 325), (Value.str (Str.ofString "mode") 326), (Value.str (Str.ofString "value") 327)]) 0) (List.toArray []))) ::
  ((nat_lit 105), (Obj.mk (Value.type "dict") Option.none (Data.dict (List.toArray [(DictEntry.mk (PyData.keyHash P (Str.ofString "__module__")) (Value.str (Str.ofString "__module__") 294) (Value.str (Str.ofString "markupmill.attribute_rules") 285)), (DictEntry.mk (PyData.keyHash P (Str.ofString "__firstlineno__")) (Value.str (Str.ofString "__firstlineno__") 298) (Value.int 63 297)), (DictEntry.mk (PyData.keyHash P (Str.ofString "__init__")) (Value.str (Str.ofString "__init__") 309) (Value.ref 89)), (DictEntry.mk (PyData.keyHash P (Str.ofString "row")) (Value.str (Str.ofString "row") 316) (Value.ref 96)), (DictEntry.mk (PyData.keyHash P (Str.ofString "has_value")) (Value.str (Str.ofString "has_value") 323) (Value.ref 103)), (DictEntry.mk (PyData.keyHash P (Str.ofString "__static_attributes__")) (Value.str (Str.ofString "__static_attributes__") 328) (Value.ref 104)), (DictEntry.mk (PyData.keyHash P (Str.ofString "__dict__")) (Value.str (Str.ofString "__dict__") 330) (Value.ref 107)), (DictEntry.mk (PyData.keyHash P (Str.ofString "__weakref__")) (Value.str (Str.ofString "__weakref__") 332) (Value.ref 108)), (DictEntry.mk (PyData.keyHash P (Str.ofString "__doc__")) (Value.str (Str.ofString "__doc__") 333) Value.none)]) 4) (List.toArray []))) ::
  ((nat_lit 106), (Obj.mk (Value.type "type") Option.none (Data.cls (ClassData.mk (Str.ofString "AttributeRule") [(Value.type "object")] [(Value.ref 106), (Value.type "object")] 105 (Str.ofString "AttributeRule") Bool.true [] [] Bool.false Option.none Bool.false)) (List.toArray [Option.none, Option.none, (Option.some (Value.str (Str.ofString "AttributeRule") 287)), (Option.some (Value.str (Str.ofString "AttributeRule") 295)), (Option.some (Value.builtin "object.__new__")), (Option.some (Value.bool Bool.true))]))) ::
  ((nat_lit 107), (Obj.mk (Value.type "getset_descriptor") Option.none (Data.fields (List.toArray [(Value.str (Str.ofString "__dict__") 329), (Value.ref 106), (Value.builtin "function.__dict__"), (Value.builtin "function.__dict__#set")])) (List.toArray []))) ::
  ((nat_lit 108), (Obj.mk (Value.type "getset_descriptor") Option.none (Data.fields (List.toArray [(Value.str (Str.ofString "__weakref__") 331), (Value.ref 106), (Value.builtin "ExceptionGroup.__weakref__"), Value.none])) (List.toArray []))) ::
  ((nat_lit 111), (Obj.mk (Value.type "tuple") Option.none (Data.seq (List.toArray [(Value.type "Exception")]) 0) (List.toArray []))) ::
  ((nat_lit 118), (Obj.mk (Value.type "tuple") Option.none (Data.seq (List.toArray []) 0) (List.toArray []))) ::
  ((nat_lit 120), (Obj.mk (Value.type "tuple") Option.none (Data.seq (List.toArray [(Value.str (Str.ofString "self") 353), (Value.str (Str.ofString "message") 354)]) 0) (List.toArray []))) ::
  ((nat_lit 121), (Obj.mk (Value.type "tuple") Option.none (Data.seq (List.toArray []) 0) (List.toArray []))) ::
  ((nat_lit 123), (Obj.mk (Value.type "code") Option.none (Data.fields (List.toArray [(Value.str (Str.ofString "__init__") 350), (Value.str (Str.ofString "MarkupError.__init__") 351), (Value.str (Str.ofString "/claim/cut.py") 352), (Value.int 79 0), (Value.int 2 0), (Value.int 0 0), (Value.int 0 0), (Value.int 3 0), (Value.ref 118), (Value.bool Bool.true), (Value.int 181 0), (Value.ref 119), Value.none, (Value.ref 120), (Value.ref 121), (Value.ref 122), (Value.int 355 0), (Value.int 79 0), (Value.str (Str.ofString "/claim/cut.py") 356)])) (List.toArray []))) ::
  ((nat_lit 124), (Obj.mk (Value.type "function") Option.none (Data.func (FuncData.mk (Str.ofString "__init__") (Str.ofString "MarkupError.__init__") p_15_0.1 (.stmts b_15_0.1) s_15_0.1 3 [] Value.none Value.none Value.none (Value.str (Str.ofString "markupmill.errors") 336) Option.none (Value.ref 123) Value.none 0)) (List.toArray []))) ::
  ((nat_lit 125), (Obj.mk (Value.type "tuple") Option.none (Data.seq (List.toArray [(Value.str (Str.ofString "message") 358)]) 0) (List.toArray []))) ::
  ((nat_lit 126), (Obj.mk (Value.type "dict") Option.none (Data.dict (List.toArray [(DictEntry.mk (PyData.keyHash P (Str.ofString "__module__")) (Value.str (Str.ofString "__module__") 345) (Value.str (Str.ofString "markupmill.errors") 336)), (DictEntry.mk (PyData.keyHash P (Str.ofString "__firstlineno__")) (Value.str (Str.ofString "__firstlineno__") 349) (Value.int 77 348)), (DictEntry.mk (PyData.keyHash P (Str.ofString "__init__")) (Value.str (Str.ofString "__init__") 357) (Value.ref 124)), (DictEntry.mk (PyData.keyHash P (Str.ofString "__static_attributes__")) (Value.str (Str.ofString "__static_attributes__") 359) (Value.ref 125)), (DictEntry.mk (PyData.keyHash P (Str.ofString "__weakref__")) (Value.str (Str.ofString "__weakref__") 361) (Value.ref 128)), (DictEntry.mk (PyData.keyHash P (Str.ofString "__doc__")) (Value.str (Str.ofString "__doc__") 362) Value.none)]) 3) (List.toArray []))) ::
  ((nat_lit 127), (Obj.mk (Value.type "type") Option.none (Data.cls (ClassData.mk (Str.ofString "MarkupError") [(Value.type "Exception")] [(Value.ref 127), (Value.type "Exception"), (Value.type "BaseException"), (Value.type "object")] 126 (Str.ofString "MarkupError") Bool.true [] [(Value.ref 140)] Bool.false Option.none Bool.false)) (List.toArray [(Option.some (Value.ref 111)), Option.none, (Option.some (Value.str (Str.ofString "MarkupError") 338)), (Option.some (Value.str (Str.ofString "MarkupError") 346)), (Option.some (Value.builtin "Exception.__new__")), (Option.some (Value.bool Bool.true))]))) ::
  ((nat_lit 128), (Obj.mk (Value.type "getset_descriptor") Option.none (Data.fields (List.toArray [(Value.str (Str.ofString "__weakref__") 360), (Value.ref 127), (Value.builtin "ExceptionGroup.__weakref__"), Value.none])) (List.toArray []))) ::
  ((nat_lit 131), (Obj.mk (Value.type "tuple") Option.none (Data.seq (List.toArray [(Value.ref 127)]) 0) (List.toArray []))) ::
  ((nat_lit 138), (Obj.mk (Value.type "tuple") Option.none (Data.seq (List.toArray []) 0) (List.toArray []))) ::
  ((nat_lit 139), (Obj.mk (Value.type "dict") Option.none (Data.dict (List.toArray [(DictEntry.mk (PyData.keyHash P (Str.ofString "__module__")) (Value.str (Str.ofString "__module__") 374) (Value.str (Str.ofString "markupmill.errors") 336)), (DictEntry.mk (PyData.keyHash P (Str.ofString "__firstlineno__")) (Value.str (Str.ofString "__firstlineno__") 378) (Value.int 82 377)), (DictEntry.mk (PyData.keyHash P (Str.ofString "__static_attributes__")) (Value.str (Str.ofString "__static_attributes__") 379) (Value.ref 138)), (DictEntry.mk (PyData.keyHash P (Str.ofString "__doc__")) (Value.str (Str.ofString "__doc__") 380) Value.none)]) 2) (List.toArray []))) ::
  ((nat_lit 140), (Obj.mk (Value.type "type") Option.none (Data.cls (ClassData.mk (Str.ofString "TreeFault") [(Value.ref 127)] [(Value.ref 140), (Value.ref 127), (Value.type "Exception"), (Value.type "BaseException"), (Value.type "object")] 139 (Str.ofString "TreeFault") Bool.true [] [] Bool.false Option.none Bool.false)) (List.toArray [(Option.some (Value.ref 131)), Option.none, (Option.some (Value.str (Str.ofString "TreeFault") 367)), (Option.some (Value.str (Str.ofString "TreeFault") 375)), (Option.some (Value.builtin "Exception.__new__")), (Option.some (Value.bool Bool.true))]))) ::
  ((nat_lit 150), (Obj.mk (Value.type "tuple") Option.none (Data.seq (List.toArray []) 0) (List.toArray []))) ::
  ((nat_lit 152), (Obj.mk (Value.type "tuple") Option.none (Data.seq (List.toArray [(Value.str (Str.ofString "self") 400), (Value.str (Str.ofString "root") 401)]) 0) (List.toArray []))) ::
  ((nat_lit 153), (Obj.mk (Value.type "tuple") Option.none (Data.seq (List.toArray []) 0) (List.toArray []))) ::
  ((nat_lit 155), (Obj.mk (Value.type "code") Option.none (Data.fields (List.toArray [(Value.str (Str.ofString "__init__") 397), (Value.str (Str.ofString "Dtd.__init__") 398), (Value.str (Str.ofString "/claim/cut.py") 399), (Value.int 87 0), (Value.int 2 0), (Value.int 0 0), (Value.int 0 0), (Value.int 3 0), (Value.ref 150), (Value.bool Bool.true), (Value.int 181 0), (Value.ref 151), Value.none, (Value.ref 152), (Value.ref 153), (Value.ref 154), (Value.int 402 0), (Value.int 87 0), (Value.str (Str.ofString "/claim/cut.py") 403)])) (List.toArray []))) ::
  ((nat_lit 156), (Obj.mk (Value.type "function") Option.none (Data.func (FuncData.mk (Str.ofString "__init__") (Str.ofString "Dtd.__init__") p_18_0.1 (.stmts b_18_0.1) s_18_0.1 3 [] Value.none Value.none Value.none (Value.str (Str.ofString "markupmill.dtd") 383) Option.none (Value.ref 155) Value.none 0)) (List.toArray []))) ::
  ((nat_lit 157), (Obj.mk (Value.type "tuple") Option.none (Data.seq (List.toArray []) 0) (List.toArray []))) ::
  ((nat_lit 159), (Obj.mk (Value.type "tuple") Option.none (Data.seq (List.toArray [(Value.str (Str.ofString "self") 408), (Value.str (Str.ofString "name") 409), (Value.str (Str.ofString "model") 410), (Value.str (Str.ofString "place") 411)]) 0) (List.toArray []))) ::
  ((nat_lit 160), (Obj.mk (Value.type "tuple") Option.none (Data.seq (List.toArray []) 0) (List.toArray []))) ::
  ((nat_lit 162), (Obj.mk (Value.type "code") Option.none (Data.fields (List.toArray [(Value.str (Str.ofString "declare_element") 405), (Value.str (Str.ofString "Dtd.declare_element") 406), (Value.str (Str.ofString "/claim/cut.py") 407), (Value.int 93 0), (Value.int 4 0), (Value.int 0 0), (Value.int 0 0), (Value.int 3 0), (Value.ref 157), (Value.bool Bool.true), (Value.int 181 0), (Value.ref 158), Value.none, (Value.ref 159), (Value.ref 160), (Value.ref 161), (Value.int 412 0), (Value.int 93 0), (Value.str (Str.ofString "/claim/cut.py") 413)])) (List.toArray []))) ::
  ((nat_lit 163), (Obj.mk (Value.type "function") Option.none (Data.func (FuncData.mk (Str.ofString "declare_element") (Str.ofString "Dtd.declare_element") p_18_1.1 (.stmts b_18_1.1) s_18_1.1 3 [] Value.none Value.none Value.none (Value.str (Str.ofString "markupmill.dtd") 383) Option.none (Value.ref 162) Value.none 0)) (List.toArray []))) ::
  ((nat_lit 164), (Obj.mk (Value.type "tuple") Option.none (Data.seq (List.toArray []) 0) (List.toArray []))) ::
  ((nat_lit 166), (Obj.mk (Value.type "tuple") Option.none (Data.seq (List.toArray [(Value.str (Str.ofString "self") 418), (Value.str (Str.ofString "element") 419), (Value.str (Str.ofString "name") 420), (Value.str (Str.ofString "rule") 421), (Value.str (Str.ofString "rules") 422)]) 0) (List.toArray []))) ::
  ((nat_lit 167), (Obj.mk (Value.type "tuple") Option.none (Data.seq (List.toArray []) 0) (List.toArray []))) ::
  ((nat_lit 169), (Obj.mk (Value.type "code") Option.none (Data.fields (List.toArray [(Value.str (Str.ofString "declare_attribute") 415), (Value.str (Str.ofString "Dtd.declare_attribute") 416), (Value.str (Str.ofString "/claim/cut.py") 417), (Value.int 96 0), (Value.int 4 0), (Value.int 0 0), (Value.int 0 0), (Value.int 3 0), (Value.ref 164), (Value.bool Bool.true), (Value.int 181 0), (Value.ref 165), Value.none, (Value.ref 166), (Value.ref 167), (Value.ref 168), (Value.int 423 0), (Value.int 96 0), (Value.str (Str.ofString "/claim/cut.py") 424)])) (List.toArray []))) ::
  ((nat_lit 170), (Obj.mk (Value.type "function") Option.none (Data.func (FuncData.mk (Str.ofString "declare_attribute") (Str.ofString "Dtd.declare_attribute") p_18_2.1 (.stmts b_18_2.1) s_18_2.1 3 [] Value.none Value.none Value.none (Value.str (Str.ofString "markupmill.dtd") 383) Option.none (Value.ref 169) Value.none 0)) (List.toArray []))) ::
  ((nat_lit 171), (Obj.mk (Value.type "tuple") Option.none (Data.seq (List.toArray []) 0) (List.toArray []))) ::
  ((nat_lit 173), (Obj.mk (Value.type "tuple") Option.none (Data.seq (List.toArray [(Value.str (Str.ofString "self") 429), (Value.str (Str.ofString "name") 430), (Value.str (Str.ofString "public") 431), (Value.str (Str.ofString "system") 432), (Value.str (Str.ofString "place") 433)]) 0) (List.toArray []))) ::
  ((nat_lit 174), (Obj.mk (Value.type "tuple") Option.none (Data.seq (List.toArray []) 0) (List.toArray []))) ::
  ((nat_lit 176), (Obj.mk (Value.type "code") Option.none (Data.fields (List.toArray [(Value.str (Str.ofString "declare_notation") 426), (Value.str (Str.ofString "Dtd.declare_notation") 427), (Value.str (Str.ofString "/claim/cut.py") 428), (Value.int 104 0), (Value.int 5 0), (Value.int 0 0), (Value.int 0 0), (Value.int 3 0), (Value.ref 171), (Value.bool Bool.true), (Value.int 181 0), (Value.ref 172), Value.none, (Value.ref 173), (Value.ref 174), (Value.ref 175), (Value.int 434 0), (Value.int 104 0), (Value.str (Str.ofString "/claim/cut.py") 435)])) (List.toArray []))) ::
  ((nat_lit 177), (Obj.mk (Value.type "function") Option.none (Data.func (FuncData.mk (Str.ofString "declare_notation") (Str.ofString "Dtd.declare_notation") p_18_3.1 (.stmts b_18_3.1) s_18_3.1 3 [] Value.none Value.none Value.none (Value.str (Str.ofString "markupmill.dtd") 383) Option.none (Value.ref 176) Value.none 0)) (List.toArray []))) ::
  ((nat_lit 178), (Obj.mk (Value.type "tuple") Option.none (Data.seq (List.toArray []) 0) (List.toArray []))) ::
  ((nat_lit 180), (Obj.mk (Value.type "tuple") Option.none (Data.seq (List.toArray [(Value.str (Str.ofString "self") 440), (Value.str (Str.ofString "name") 441)]) 0) (List.toArray []))) ::
  ((nat_lit 181), (Obj.mk (Value.type "tuple") Option.none (Data.seq (List.toArray []) 0) (List.toArray []))) ::
  ((nat_lit 183), (Obj.mk (Value.type "code") Option.none (Data.fields (List.toArray [(Value.str (Str.ofString "model") 437), (Value.str (Str.ofString "Dtd.model") 438), (Value.str (Str.ofString "/claim/cut.py") 439), (Value.int 107 0), (Value.int 2 0), (Value.int 0 0), (Value.int 0 0), (Value.int 3 0), (Value.ref 178), (Value.bool Bool.true), (Value.int 181 0), (Value.ref 179), Value.none, (Value.ref 180), (Value.ref 181), (Value.ref 182), (Value.int 442 0), (Value.int 107 0), (Value.str (Str.ofString "/claim/cut.py") 443)])) (List.toArray []))) ::
  ((nat_lit 184), (Obj.mk (Value.type "function") Option.none (Data.func (FuncData.mk (Str.ofString "model") (Str.ofString "Dtd.model") p_18_4.1 (.stmts b_18_4.1) s_18_4.1 3 [] Value.none Value.none Value.none (Value.str (Str.ofString "markupmill.dtd") 383) Option.none (Value.ref 183) Value.none 0)) (List.toArray []))) ::
  ((nat_lit 185), (Obj.mk (Value.type "tuple") Option.none (Data.seq (List.toArray []) 0) (List.toArray []))) ::
  ((nat_lit 187), (Obj.mk (Value.type "tuple") Option.none (Data.seq (List.toArray [(Value.str (Str.ofString "self") 448), (Value.str (Str.ofString "element") 449)]) 0) (List.toArray []))) ::
  ((nat_lit 188), (Obj.mk (Value.type "tuple") Option.none (Data.seq (List.toArray []) 0) (List.toArray []))) ::
  ((nat_lit 190), (Obj.mk (Value.type "code") Option.none (Data.fields (List.toArray [(Value.str (Str.ofString "rules") 445), (Value.str (Str.ofString "Dtd.rules") 446), (Value.str (Str.ofString "/claim/cut.py") 447), (Value.int 110 0), (Value.int 2 0), (Value.int 0 0), (Value.int 0 0), (Value.int 3 0), (Value.ref 185), (Value.bool Bool.true), (Value.int 181 0), (Value.ref 186), Value.none, (Value.ref 187), (Value.ref 188), (Value.ref 189), (Value.int 450 0), (Value.int 110 0), (Value.str (Str.ofString "/claim/cut.py") 451)])) (List.toArray []))) ::
  ((nat_lit 191), (Obj.mk (Value.type "function") Option.none (Data.func (FuncData.mk (Str.ofString "rules") (Str.ofString "Dtd.rules") p_18_5.1 (.stmts b_18_5.1) s_18_5.1 3 [] Value.none Value.none Value.none (Value.str (Str.ofString "markupmill.dtd") 383) Option.none (Value.ref 190) Value.none 0)) (List.toArray []))) ::
  ((nat_lit 192), (Obj.mk (Value.type "tuple") Option.none (Data.seq (List.toArray []) 0) (List.toArray []))) ::
  ((nat_lit 194), (Obj.mk (Value.type "tuple") Option.none (Data.seq (List.toArray [(Value.str (Str.ofString "self") 456), (Value.str (Str.ofString "element") 457), (Value.str (Str.ofString "name") 458)]) 0) (List.toArray []))) ::
  ((nat_lit 195), (Obj.mk (Value.type "tuple") Option.none (Data.seq (List.toArray []) 0) (List.toArray []))) ::
  ((nat_lit 197), (Obj.mk (Value.type "code") Option.none (Data.fields (List.toArray [(Value.str (Str.ofString "rule") 453), (Value.str (Str.ofString "Dtd.rule") 454), (Value.str (Str.ofString "/claim/cut.py") 455), (Value.int 113 0), (Value.int 3 0), (Value.int 0 0), (Value.int 0 0), (Value.int 3 0), (Value.ref 192), (Value.bool Bool.true), (Value.int 181 0), (Value.ref 193), Value.none, (Value.ref 194), (Value.ref 195), (Value.ref 196), (Value.int 459 0), (Value.int 113 0), (Value.str (Str.ofString "/claim/cut.py") 460)])) (List.toArray []))) ::
  ((nat_lit 198), (Obj.mk (Value.type "function") Option.none (Data.func (FuncData.mk (Str.ofString "rule") (Str.ofString "Dtd.rule") p_18_6.1 (.stmts b_18_6.1) s_18_6.1 3 [] Value.none Value.none Value.none (Value.str (Str.ofString "markupmill.dtd") 383) Option.none (Value.ref 197) Value.none 0)) (List.toArray []))) ::
  ((nat_lit 199), (Obj.mk (Value.type "tuple") Option.none (Data.seq (List.toArray []) 0) (List.toArray []))) ::
  ((nat_lit 202), (Obj.mk (Value.type "code") Option.none (Data.fields (List.toArray [(Value.str (Str.ofString "names_of_kind") 462), (Value.str (Str.ofString "Dtd.names_of_kind") 463), (Value.str (Str.ofString "/claim/cut.py") 464), (Value.int 116 0), (Value.int 3 0), (Value.int 0 0), (Value.int 0 0), (Value.int 3 0), (Value.ref 199), (Value.bool Bool.true), (Value.int 181 0), (Value.ref 200), Value.none, Value.none, Value.none, (Value.ref 201), (Value.int 465 0), (Value.int 116 0), (Value.str (Str.ofString "/claim/cut.py") 466)])) (List.toArray []))) ::
  ((nat_lit 203), (Obj.mk (Value.type "function") Option.none (Data.func (FuncData.mk (Str.ofString "names_of_kind") (Str.ofString "Dtd.names_of_kind") p_18_7.1 (.stmts b_18_7.1) s_18_7.1 3 [] Value.none Value.none Value.none (Value.str (Str.ofString "markupmill.dtd") 383) Option.none (Value.ref 202) Value.none 0)) (List.toArray []))) ::
  ((nat_lit 204), (Obj.mk (Value.type "tuple") Option.none (Data.seq (List.toArray []) 0) (List.toArray []))) ::
  ((nat_lit 206), (Obj.mk (Value.type "tuple") Option.none (Data.seq (List.toArray [(Value.str (Str.ofString "self") 471), (Value.str (Str.ofString "element") 472), (Value.str (Str.ofString "names") 473)]) 0) (List.toArray []))) ::
  ((nat_lit 207), (Obj.mk (Value.type "tuple") Option.none (Data.seq (List.toArray []) 0) (List.toArray []))) ::
  ((nat_lit 209), (Obj.mk (Value.type "code") Option.none (Data.fields (List.toArray [(Value.str (Str.ofString "id_name") 468), (Value.str (Str.ofString "Dtd.id_name") 469), (Value.str (Str.ofString "/claim/cut.py") 470), (Value.int 120 0), (Value.int 2 0), (Value.int 0 0), (Value.int 0 0), (Value.int 3 0), (Value.ref 204), (Value.bool Bool.true), (Value.int 181 0), (Value.ref 205), Value.none, (Value.ref 206), (Value.ref 207), (Value.ref 208), (Value.int 474 0), (Value.int 120 0), (Value.str (Str.ofString "/claim/cut.py") 475)])) (List.toArray []))) ::
  ((nat_lit 210), (Obj.mk (Value.type "function") Option.none (Data.func (FuncData.mk (Str.ofString "id_name") (Str.ofString "Dtd.id_name") p_18_8.1 (.stmts b_18_8.1) s_18_8.1 3 [] Value.none Value.none Value.none (Value.str (Str.ofString "markupmill.dtd") 383) Option.none (Value.ref 209) Value.none 0)) (List.toArray []))) ::
  ((nat_lit 211), (Obj.mk (Value.type "tuple") Option.none (Data.seq (List.toArray []) 0) (List.toArray []))) ::
  ((nat_lit 213), (Obj.mk (Value.type "tuple") Option.none (Data.seq (List.toArray [(Value.str (Str.ofString "self") 480)]) 0) (List.toArray []))) ::
  ((nat_lit 214), (Obj.mk (Value.type "tuple") Option.none (Data.seq (List.toArray []) 0) (List.toArray []))) ::
  ((nat_lit 216), (Obj.mk (Value.type "code") Option.none (Data.fields (List.toArray [(Value.str (Str.ofString "faults") 477), (Value.str (Str.ofString "Dtd.faults") 478), (Value.str (Str.ofString "/claim/cut.py") 479), (Value.int 124 0), (Value.int 1 0), (Value.int 0 0), (Value.int 0 0), (Value.int 3 0), (Value.ref 211), (Value.bool Bool.true), (Value.int 181 0), (Value.ref 212), Value.none, (Value.ref 213), (Value.ref 214), (Value.ref 215), (Value.int 481 0), (Value.int 124 0), (Value.str (Str.ofString "/claim/cut.py") 482)])) (List.toArray []))) ::
  ((nat_lit 217), (Obj.mk (Value.type "function") Option.none (Data.func (FuncData.mk (Str.ofString "faults") (Str.ofString "Dtd.faults") p_18_9.1 (.stmts b_18_9.1) s_18_9.1 3 [] Value.none Value.none Value.none (Value.str (Str.ofString "markupmill.dtd") 383) Option.none (Value.ref 216) Value.none 0)) (List.toArray []))) ::
  ((nat_lit 218), (Obj.mk (Value.type "tuple") Option.none (Data.seq (List.toArray []) 0) (List.toArray []))) ::
  ((nat_lit 220), (Obj.mk (Value.type "tuple") Option.none (Data.seq (List.toArray [(Value.str (Str.ofString "self") 487), (Value.str (Str.ofString "element") 488)]) 0) (List.toArray []))) ::
  ((nat_lit 221), (Obj.mk (Value.type "tuple") Option.none (Data.seq (List.toArray []) 0) (List.toArray []))) ::
  ((nat_lit 223), (Obj.mk (Value.type "code") Option.none (Data.fields (List.toArray [(Value.str (Str.ofString "element_faults") 484), (Value.str (Str.ofString "Dtd.element_faults") 485), (Value.str (Str.ofString "/claim/cut.py") 486), (Value.int 127 0), (Value.int 2 0), (Value.int 0 0), (Value.int 0 0), (Value.int 3 0), (Value.ref 218), (Value.bool Bool.true), (Value.int 181 0), (Value.ref 219), Value.none, (Value.ref 220), (Value.ref 221), (Value.ref 222), (Value.int 489 0), (Value.int 127 0), (Value.str (Str.ofString "/claim/cut.py") 490)])) (List.toArray []))) ::
  ((nat_lit 224), (Obj.mk (Value.type "function") Option.none (Data.func (FuncData.mk (Str.ofString "element_faults") (Str.ofString "Dtd.element_faults") p_18_10.1 (.stmts b_18_10.1) s_18_10.1 3 [] Value.none Value.none Value.none (Value.str (Str.ofString "markupmill.dtd") 383) Option.none (Value.ref 223) Value.none 0)) (List.toArray []))) ::
  ((nat_lit 225), (Obj.mk (Value.type "tuple") Option.none (Data.seq (List.toArray []) 0) (List.toArray []))) ::
  ((nat_lit 227), (Obj.mk (Value.type "tuple") Option.none (Data.seq (List.toArray [(Value.str (Str.ofString "self") 495), (Value.str (Str.ofString "element") 496), (Value.str (Str.ofString "name") 497), (Value.str (Str.ofString "rule") 498)]) 0) (List.toArray []))) ::
  ((nat_lit 228), (Obj.mk (Value.type "tuple") Option.none (Data.seq (List.toArray []) 0) (List.toArray []))) ::
  ((nat_lit 230), (Obj.mk (Value.type "code") Option.none (Data.fields (List.toArray [(Value.str (Str.ofString "notation_faults") 492), (Value.str (Str.ofString "Dtd.notation_faults") 493), (Value.str (Str.ofString "/claim/cut.py") 494), (Value.int 130 0), (Value.int 4 0), (Value.int 0 0), (Value.int 0 0), (Value.int 3 0), (Value.ref 225), (Value.bool Bool.true), (Value.int 181 0), (Value.ref 226), Value.none, (Value.ref 227), (Value.ref 228), (Value.ref 229), (Value.int 499 0), (Value.int 130 0), (Value.str (Str.ofString "/claim/cut.py") 500)])) (List.toArray []))) ::
  ((nat_lit 231), (Obj.mk (Value.type "function") Option.none (Data.func (FuncData.mk (Str.ofString "notation_faults") (Str.ofString "Dtd.notation_faults") p_18_11.1 (.stmts b_18_11.1) s_18_11.1 3 [] Value.none Value.none Value.none (Value.str (Str.ofString "markupmill.dtd") 383) Option.none (Value.ref 230) Value.none 0)) (List.toArray []))) ::
  ((nat_lit 232), (Obj.mk (Value.type "tuple") Option.none (Data.seq (List.toArray [(Value.str (Str.ofString "attributes") 502), (Value.str (Str.ofString "elements") 503), (Value.str (Str.ofString "notations") 504), (Value.str (Str.ofString "root") 505)]) 0) (List.toArray []))) ::
  ((nat_lit 233), (Obj.mk (Value.type "dict") Option.none (Data.dict (List.toArray [(DictEntry.mk (PyData.keyHash P (Str.ofString "__module__")) (Value.str (Str.ofString "__module__") 392) (Value.str (Str.ofString "markupmill.dtd") 383)), (DictEntry.mk (PyData.keyHash P (Str.ofString "__firstlineno__")) (Value.str (Str.ofString "__firstlineno__") 396) (Value.int 85 395)), (DictEntry.mk (PyData.keyHash P (Str.ofString "__init__")) (Value.str (Str.ofString "__init__") 404) (Value.ref 156)), (DictEntry.mk (PyData.keyHash P (Str.ofString "declare_element")) (Value.str (Str.ofString "declare_element") 414) (Value.ref 163)), (DictEntry.mk (PyData.keyHash P (Str.ofString "declare_attribute")) (Value.str (Str.ofString "declare_attribute") 425) (Value.ref 170)), (DictEntry.mk (PyData.keyHash P (Str.ofString "declare_notation")) (Value.str (Str.ofString "declare_notation") 436) (Value.ref 177)), (DictEntry.mk (PyData.keyHash P (Str.ofString "model")) (Value.str (Str.ofString "model") 444) (Value.ref 184)), (DictEntry.mk (PyData.keyHash P (Str.ofString "rules")) (Value.str (Str.ofString "rules") 452) (Value.ref 191)), (DictEntry.mk (PyData.keyHash P (Str.ofString "rule")) (Value.str (Str.ofString "rule") 461) (Value.ref 198)), (DictEntry.mk (PyData.keyHash P (Str.ofString "names_of_kind")) (Value.str (Str.ofString "names_of_kind") 467) (Value.ref 203)), (DictEntry.mk (PyData.keyHash P (Str.ofString "id_name")) (Value.str (Str.ofString "id_name") 476) (Value.ref 210)), (DictEntry.mk (PyData.keyHash P (Str.ofString "faults")) (Value.str (Str.ofString "faults") 483) (Value.ref 217)), (DictEntry.mk (PyData.keyHash P (Str.ofString "element_faults")) (Value.str (Str.ofString "element_faults") 491) (Value.ref 224)), (DictEntry.mk (PyData.keyHash P (Str.ofString "notation_faults")) (Value.str (Str.ofString "notation_faults") 501) (Value.ref 231)), (DictEntry.mk (PyData.keyHash P (Str.ofString "__static_attributes__")) (Value.str (Str.ofString "__static_attributes__") 506) (Value.ref 232)), (DictEntry.mk (PyData.keyHash P (Str.ofString "__dict__")) (Value.str (Str.ofString "__dict__") 508) (Value.ref 235)), (DictEntry.mk (PyData.keyHash P (Str.ofString "__weakref__")) (Value.str (Str.ofString "__weakref__") 510) (Value.ref 236)), (DictEntry.mk (PyData.keyHash P (Str.ofString "__doc__")) (Value.str (Str.ofString "__doc__") 511) Value.none)]) 4) (List.toArray []))) ::
  ((nat_lit 234), (Obj.mk (Value.type "type") Option.none (Data.cls (ClassData.mk (Str.ofString "Dtd") [(Value.type "object")] [(Value.ref 234), (Value.type "object")] 233 (Str.ofString "Dtd") Bool.true [] [] Bool.false Option.none Bool.false)) (List.toArray [Option.none, Option.none, (Option.some (Value.str (Str.ofString "Dtd") 385)), (Option.some (Value.str (Str.ofString "Dtd") 393)), (Option.some (Value.builtin "object.__new__")), (Option.some (Value.bool Bool.true))]))) ::
  ((nat_lit 235), (Obj.mk (Value.type "getset_descriptor") Option.none (Data.fields (List.toArray [(Value.str (Str.ofString "__dict__") 507), (Value.ref 234), (Value.builtin "function.__dict__"), (Value.builtin "function.__dict__#set")])) (List.toArray []))) ::
  ((nat_lit 236), (Obj.mk (Value.type "getset_descriptor") Option.none (Data.fields (List.toArray [(Value.str (Str.ofString "__weakref__") 509), (Value.ref 234), (Value.builtin "ExceptionGroup.__weakref__"), Value.none])) (List.toArray []))) ::
  ((nat_lit 239), (Obj.mk (Value.type "tuple") Option.none (Data.seq (List.toArray [(Value.str (Str.ofString "root") 516), (Value.str (Str.ofString "element") 517)]) 0) (List.toArray []))) ::
  ((nat_lit 247), (Obj.mk (Value.type "tuple") Option.none (Data.seq (List.toArray []) 0) (List.toArray []))) ::
  ((nat_lit 249), (Obj.mk (Value.type "tuple") Option.none (Data.seq (List.toArray [(Value.str (Str.ofString "self") 534), (Value.str (Str.ofString "kind") 535), (Value.str (Str.ofString "name") 536), (Value.str (Str.ofString "uri") 537), (Value.str (Str.ofString "local") 538), (Value.str (Str.ofString "value") 539), (Value.str (Str.ofString "parent") 540)]) 0) (List.toArray []))) ::
  ((nat_lit 250), (Obj.mk (Value.type "tuple") Option.none (Data.seq (List.toArray []) 0) (List.toArray []))) ::
  ((nat_lit 252), (Obj.mk (Value.type "code") Option.none (Data.fields (List.toArray [(Value.str (Str.ofString "__init__") 531), (Value.str (Str.ofString "NodeRow.__init__") 532), (Value.str (Str.ofString "/claim/cut.py") 533), (Value.int 136 0), (Value.int 7 0), (Value.int 0 0), (Value.int 0 0), (Value.int 3 0), (Value.ref 247), (Value.bool Bool.true), (Value.int 181 0), (Value.ref 248), Value.none, (Value.ref 249), (Value.ref 250), (Value.ref 251), (Value.int 541 0), (Value.int 136 0), (Value.str (Str.ofString "/claim/cut.py") 542)])) (List.toArray []))) ::
  ((nat_lit 253), (Obj.mk (Value.type "function") Option.none (Data.func (FuncData.mk (Str.ofString "__init__") (Str.ofString "NodeRow.__init__") p_21_0.1 (.stmts b_21_0.1) s_21_0.1 3 [] Value.none Value.none Value.none (Value.str (Str.ofString "markupmill.tree") 514) Option.none (Value.ref 252) Value.none 0)) (List.toArray []))) ::
  ((nat_lit 254), (Obj.mk (Value.type "tuple") Option.none (Data.seq (List.toArray [(Value.str (Str.ofString "attributes") 544), (Value.str (Str.ofString "children") 545), (Value.str (Str.ofString "kind") 546), (Value.str (Str.ofString "local") 547), (Value.str (Str.ofString "name") 548), (Value.str (Str.ofString "namespaces") 549), (Value.str (Str.ofString "parent") 550), (Value.str (Str.ofString "uri") 551), (Value.str (Str.ofString "value") 552)]) 0) (List.toArray []))) ::
  ((nat_lit 255), (Obj.mk (Value.type "dict") Option.none (Data.dict (List.toArray [(DictEntry.mk (PyData.keyHash P (Str.ofString "__module__")) (Value.str (Str.ofString "__module__") 526) (Value.str (Str.ofString "markupmill.tree") 514)), (DictEntry.mk (PyData.keyHash P (Str.ofString "__firstlineno__")) (Value.str (Str.ofString "__firstlineno__") 530) (Value.int 134 529)), (DictEntry.mk (PyData.keyHash P (Str.ofString "__init__")) (Value.str (Str.ofString "__init__") 543) (Value.ref 253)), (DictEntry.mk (PyData.keyHash P (Str.ofString "__static_attributes__")) (Value.str (Str.ofString "__static_attributes__") 553) (Value.ref 254)), (DictEntry.mk (PyData.keyHash P (Str.ofString "__dict__")) (Value.str (Str.ofString "__dict__") 555) (Value.ref 257)), (DictEntry.mk (PyData.keyHash P (Str.ofString "__weakref__")) (Value.str (Str.ofString "__weakref__") 557) (Value.ref 258)), (DictEntry.mk (PyData.keyHash P (Str.ofString "__doc__")) (Value.str (Str.ofString "__doc__") 558) Value.none)]) 4) (List.toArray []))) ::
  ((nat_lit 256), (Obj.mk (Value.type "type") Option.none (Data.cls (ClassData.mk (Str.ofString "NodeRow") [(Value.type "object")] [(Value.ref 256), (Value.type "object")] 255 (Str.ofString "NodeRow") Bool.true [] [] Bool.false Option.none Bool.false)) (List.toArray [Option.none, Option.none, (Option.some (Value.str (Str.ofString "NodeRow") 519)), (Option.some (Value.str (Str.ofString "NodeRow") 527)), (Option.some (Value.builtin "object.__new__")), (Option.some (Value.bool Bool.true))]))) ::
  ((nat_lit 257), (Obj.mk (Value.type "getset_descriptor") Option.none (Data.fields (List.toArray [(Value.str (Str.ofString "__dict__") 554), (Value.ref 256), (Value.builtin "function.__dict__"), (Value.builtin "function.__dict__#set")])) (List.toArray []))) ::
  ((nat_lit 258), (Obj.mk (Value.type "getset_descriptor") Option.none (Data.fields (List.toArray [(Value.str (Str.ofString "__weakref__") 556), (Value.ref 256), (Value.builtin "ExceptionGroup.__weakref__"), Value.none])) (List.toArray []))) ::
  ((nat_lit 268), (Obj.mk (Value.type "tuple") Option.none (Data.seq (List.toArray []) 0) (List.toArray []))) ::
  ((nat_lit 270), (Obj.mk (Value.type "tuple") Option.none (Data.seq (List.toArray [(Value.str (Str.ofString "self") 576)]) 0) (List.toArray []))) ::
  ((nat_lit 271), (Obj.mk (Value.type "tuple") Option.none (Data.seq (List.toArray []) 0) (List.toArray []))) ::
  ((nat_lit 273), (Obj.mk (Value.type "code") Option.none (Data.fields (List.toArray [(Value.str (Str.ofString "__init__") 573), (Value.str (Str.ofString "Tree.__init__") 574), (Value.str (Str.ofString "/claim/cut.py") 575), (Value.int 148 0), (Value.int 1 0), (Value.int 0 0), (Value.int 0 0), (Value.int 3 0), (Value.ref 268), (Value.bool Bool.true), (Value.int 181 0), (Value.ref 269), Value.none, (Value.ref 270), (Value.ref 271), (Value.ref 272), (Value.int 577 0), (Value.int 148 0), (Value.str (Str.ofString "/claim/cut.py") 578)])) (List.toArray []))) ::
  ((nat_lit 274), (Obj.mk (Value.type "function") Option.none (Data.func (FuncData.mk (Str.ofString "__init__") (Str.ofString "Tree.__init__") p_22_0.1 (.stmts b_22_0.1) s_22_0.1 3 [] Value.none Value.none Value.none (Value.str (Str.ofString "markupmill.tree") 514) Option.none (Value.ref 273) Value.none 0)) (List.toArray []))) ::
  ((nat_lit 275), (Obj.mk (Value.type "tuple") Option.none (Data.seq (List.toArray []) 0) (List.toArray []))) ::
  ((nat_lit 277), (Obj.mk (Value.type "tuple") Option.none (Data.seq (List.toArray [(Value.str (Str.ofString "self") 583), (Value.str (Str.ofString "kind") 584), (Value.str (Str.ofString "name") 585), (Value.str (Str.ofString "uri") 586), (Value.str (Str.ofString "local") 587), (Value.str (Str.ofString "value") 588), (Value.str (Str.ofString "parent") 589)]) 0) (List.toArray []))) ::
  ((nat_lit 278), (Obj.mk (Value.type "tuple") Option.none (Data.seq (List.toArray []) 0) (List.toArray []))) ::
  ((nat_lit 280), (Obj.mk (Value.type "code") Option.none (Data.fields (List.toArray [(Value.str (Str.ofString "new_row") 580), (Value.str (Str.ofString "Tree.new_row") 581), (Value.str (Str.ofString "/claim/cut.py") 582), (Value.int 151 0), (Value.int 7 0), (Value.int 0 0), (Value.int 0 0), (Value.int 3 0), (Value.ref 275), (Value.bool Bool.true), (Value.int 181 0), (Value.ref 276), Value.none, (Value.ref 277), (Value.ref 278), (Value.ref 279), (Value.int 590 0), (Value.int 151 0), (Value.str (Str.ofString "/claim/cut.py") 591)])) (List.toArray []))) ::
  ((nat_lit 281), (Obj.mk (Value.type "function") Option.none (Data.func (FuncData.mk (Str.ofString "new_row") (Str.ofString "Tree.new_row") p_22_1.1 (.stmts b_22_1.1) s_22_1.1 3 [] Value.none Value.none Value.none (Value.str (Str.ofString "markupmill.tree") 514) Option.none (Value.ref 280) Value.none 0)) (List.toArray []))) ::
  ((nat_lit 282), (Obj.mk (Value.type "tuple") Option.none (Data.seq (List.toArray []) 0) (List.toArray []))) ::
  ((nat_lit 284), (Obj.mk (Value.type "tuple") Option.none (Data.seq (List.toArray [(Value.str (Str.ofString "self") 596), (Value.str (Str.ofString "node") 597)]) 0) (List.toArray []))) ::
  ((nat_lit 285), (Obj.mk (Value.type "tuple") Option.none (Data.seq (List.toArray []) 0) (List.toArray []))) ::
  ((nat_lit 287), (Obj.mk (Value.type "code") Option.none (Data.fields (List.toArray [(Value.str (Str.ofString "row") 593), (Value.str (Str.ofString "Tree.row") 594), (Value.str (Str.ofString "/claim/cut.py") 595), (Value.int 155 0), (Value.int 2 0), (Value.int 0 0), (Value.int 0 0), (Value.int 3 0), (Value.ref 282), (Value.bool Bool.true), (Value.int 181 0), (Value.ref 283), Value.none, (Value.ref 284), (Value.ref 285), (Value.ref 286), (Value.int 598 0), (Value.int 155 0), (Value.str (Str.ofString "/claim/cut.py") 599)])) (List.toArray []))) ::
  ((nat_lit 288), (Obj.mk (Value.type "function") Option.none (Data.func (FuncData.mk (Str.ofString "row") (Str.ofString "Tree.row") p_22_2.1 (.stmts b_22_2.1) s_22_2.1 3 [] Value.none Value.none Value.none (Value.str (Str.ofString "markupmill.tree") 514) Option.none (Value.ref 287) Value.none 0)) (List.toArray []))) ::
  ((nat_lit 289), (Obj.mk (Value.type "tuple") Option.none (Data.seq (List.toArray []) 0) (List.toArray []))) ::
  ((nat_lit 291), (Obj.mk (Value.type "tuple") Option.none (Data.seq (List.toArray [(Value.str (Str.ofString "self") 604)]) 0) (List.toArray []))) ::
  ((nat_lit 292), (Obj.mk (Value.type "tuple") Option.none (Data.seq (List.toArray []) 0) (List.toArray []))) ::
  ((nat_lit 294), (Obj.mk (Value.type "code") Option.none (Data.fields (List.toArray [(Value.str (Str.ofString "new_root") 601), (Value.str (Str.ofString "Tree.new_root") 602), (Value.str (Str.ofString "/claim/cut.py") 603), (Value.int 160 0), (Value.int 1 0), (Value.int 0 0), (Value.int 0 0), (Value.int 3 0), (Value.ref 289), (Value.bool Bool.true), (Value.int 181 0), (Value.ref 290), Value.none, (Value.ref 291), (Value.ref 292), (Value.ref 293), (Value.int 605 0), (Value.int 160 0), (Value.str (Str.ofString "/claim/cut.py") 606)])) (List.toArray []))) ::
  ((nat_lit 295), (Obj.mk (Value.type "function") Option.none (Data.func (FuncData.mk (Str.ofString "new_root") (Str.ofString "Tree.new_root") p_22_3.1 (.stmts b_22_3.1) s_22_3.1 3 [] Value.none Value.none Value.none (Value.str (Str.ofString "markupmill.tree") 514) Option.none (Value.ref 294) Value.none 0)) (List.toArray []))) ::
  ((nat_lit 296), (Obj.mk (Value.type "tuple") Option.none (Data.seq (List.toArray []) 0) (List.toArray []))) ::
  ((nat_lit 298), (Obj.mk (Value.type "tuple") Option.none (Data.seq (List.toArray [(Value.str (Str.ofString "self") 611), (Value.str (Str.ofString "parent") 612), (Value.str (Str.ofString "kind") 613), (Value.str (Str.ofString "name") 614), (Value.str (Str.ofString "uri") 615), (Value.str (Str.ofString "local") 616), (Value.str (Str.ofString "value") 617), (Value.str (Str.ofString "node") 618)]) 0) (List.toArray []))) ::
  ((nat_lit 299), (Obj.mk (Value.type "tuple") Option.none (Data.seq (List.toArray []) 0) (List.toArray []))) ::
  ((nat_lit 301), (Obj.mk (Value.type "code") Option.none (Data.fields (List.toArray [(Value.str (Str.ofString "add_child") 608), (Value.str (Str.ofString "Tree.add_child") 609), (Value.str (Str.ofString "/claim/cut.py") 610), (Value.int 163 0), (Value.int 7 0), (Value.int 0 0), (Value.int 0 0), (Value.int 3 0), (Value.ref 296), (Value.bool Bool.true), (Value.int 181 0), (Value.ref 297), Value.none, (Value.ref 298), (Value.ref 299), (Value.ref 300), (Value.int 619 0), (Value.int 163 0), (Value.str (Str.ofString "/claim/cut.py") 620)])) (List.toArray []))) ::
  ((nat_lit 302), (Obj.mk (Value.type "function") Option.none (Data.func (FuncData.mk (Str.ofString "add_child") (Str.ofString "Tree.add_child") p_22_4.1 (.stmts b_22_4.1) s_22_4.1 3 [] Value.none Value.none Value.none (Value.str (Str.ofString "markupmill.tree") 514) Option.none (Value.ref 301) Value.none 0)) (List.toArray []))) ::
  ((nat_lit 303), (Obj.mk (Value.type "tuple") Option.none (Data.seq (List.toArray []) 0) (List.toArray []))) ::
  ((nat_lit 305), (Obj.mk (Value.type "tuple") Option.none (Data.seq (List.toArray [(Value.str (Str.ofString "self") 625), (Value.str (Str.ofString "parent") 626), (Value.str (Str.ofString "name") 627), (Value.str (Str.ofString "uri") 628), (Value.str (Str.ofString "local") 629)]) 0) (List.toArray []))) ::
  ((nat_lit 306), (Obj.mk (Value.type "tuple") Option.none (Data.seq (List.toArray []) 0) (List.toArray []))) ::
  ((nat_lit 308), (Obj.mk (Value.type "code") Option.none (Data.fields (List.toArray [(Value.str (Str.ofString "add_element") 622), (Value.str (Str.ofString "Tree.add_element") 623), (Value.str (Str.ofString "/claim/cut.py") 624), (Value.int 171 0), (Value.int 5 0), (Value.int 0 0), (Value.int 0 0), (Value.int 3 0), (Value.ref 303), (Value.bool Bool.true), (Value.int 181 0), (Value.ref 304), Value.none, (Value.ref 305), (Value.ref 306), (Value.ref 307), (Value.int 630 0), (Value.int 171 0), (Value.str (Str.ofString "/claim/cut.py") 631)])) (List.toArray []))) ::
  ((nat_lit 309), (Obj.mk (Value.type "function") Option.none (Data.func (FuncData.mk (Str.ofString "add_element") (Str.ofString "Tree.add_element") p_22_5.1 (.stmts b_22_5.1) s_22_5.1 3 [] Value.none Value.none Value.none (Value.str (Str.ofString "markupmill.tree") 514) Option.none (Value.ref 308) Value.none 0)) (List.toArray []))) ::
  ((nat_lit 310), (Obj.mk (Value.type "tuple") Option.none (Data.seq (List.toArray []) 0) (List.toArray []))) ::
  ((nat_lit 312), (Obj.mk (Value.type "tuple") Option.none (Data.seq (List.toArray [(Value.str (Str.ofString "self") 636), (Value.str (Str.ofString "parent") 637), (Value.str (Str.ofString "value") 638)]) 0) (List.toArray []))) ::
  ((nat_lit 313), (Obj.mk (Value.type "tuple") Option.none (Data.seq (List.toArray []) 0) (List.toArray []))) ::
  ((nat_lit 315), (Obj.mk (Value.type "code") Option.none (Data.fields (List.toArray [(Value.str (Str.ofString "add_text") 633), (Value.str (Str.ofString "Tree.add_text") 634), (Value.str (Str.ofString "/claim/cut.py") 635), (Value.int 174 0), (Value.int 3 0), (Value.int 0 0), (Value.int 0 0), (Value.int 3 0), (Value.ref 310), (Value.bool Bool.true), (Value.int 181 0), (Value.ref 311), Value.none, (Value.ref 312), (Value.ref 313), (Value.ref 314), (Value.int 639 0), (Value.int 174 0), (Value.str (Str.ofString "/claim/cut.py") 640)])) (List.toArray []))) ::
  ((nat_lit 316), (Obj.mk (Value.type "function") Option.none (Data.func (FuncData.mk (Str.ofString "add_text") (Str.ofString "Tree.add_text") p_22_6.1 (.stmts b_22_6.1) s_22_6.1 3 [] Value.none Value.none Value.none (Value.str (Str.ofString "markupmill.tree") 514) Option.none (Value.ref 315) Value.none 0)) (List.toArray []))) ::
  ((nat_lit 317), (Obj.mk (Value.type "tuple") Option.none (Data.seq (List.toArray []) 0) (List.toArray []))) ::
  ((nat_lit 319), (Obj.mk (Value.type "tuple") Option.none (Data.seq (List.toArray [(Value.str (Str.ofString "self") 645), (Value.str (Str.ofString "parent") 646), (Value.str (Str.ofString "value") 647)]) 0) (List.toArray []))) ::
  ((nat_lit 320), (Obj.mk (Value.type "tuple") Option.none (Data.seq (List.toArray []) 0) (List.toArray []))) ::
  ((nat_lit 322), (Obj.mk (Value.type "code") Option.none (Data.fields (List.toArray [(Value.str (Str.ofString "add_comment") 642), (Value.str (Str.ofString "Tree.add_comment") 643), (Value.str (Str.ofString "/claim/cut.py") 644), (Value.int 177 0), (Value.int 3 0), (Value.int 0 0), (Value.int 0 0), (Value.int 3 0), (Value.ref 317), (Value.bool Bool.true), (Value.int 181 0), (Value.ref 318), Value.none, (Value.ref 319), (Value.ref 320), (Value.ref 321), (Value.int 648 0), (Value.int 177 0), (Value.str (Str.ofString "/claim/cut.py") 649)])) (List.toArray []))) ::
  ((nat_lit 323), (Obj.mk (Value.type "function") Option.none (Data.func (FuncData.mk (Str.ofString "add_comment") (Str.ofString "Tree.add_comment") p_22_7.1 (.stmts b_22_7.1) s_22_7.1 3 [] Value.none Value.none Value.none (Value.str (Str.ofString "markupmill.tree") 514) Option.none (Value.ref 322) Value.none 0)) (List.toArray []))) ::
  ((nat_lit 324), (Obj.mk (Value.type "tuple") Option.none (Data.seq (List.toArray []) 0) (List.toArray []))) ::
  ((nat_lit 326), (Obj.mk (Value.type "tuple") Option.none (Data.seq (List.toArray [(Value.str (Str.ofString "self") 654), (Value.str (Str.ofString "parent") 655), (Value.str (Str.ofString "target") 656), (Value.str (Str.ofString "data") 657)]) 0) (List.toArray []))) ::
  ((nat_lit 327), (Obj.mk (Value.type "tuple") Option.none (Data.seq (List.toArray []) 0) (List.toArray []))) ::
  ((nat_lit 329), (Obj.mk (Value.type "code") Option.none (Data.fields (List.toArray [(Value.str (Str.ofString "add_instruction") 651), (Value.str (Str.ofString "Tree.add_instruction") 652), (Value.str (Str.ofString "/claim/cut.py") 653), (Value.int 180 0), (Value.int 4 0), (Value.int 0 0), (Value.int 0 0), (Value.int 3 0), (Value.ref 324), (Value.bool Bool.true), (Value.int 181 0), (Value.ref 325), Value.none, (Value.ref 326), (Value.ref 327), (Value.ref 328), (Value.int 658 0), (Value.int 180 0), (Value.str (Str.ofString "/claim/cut.py") 659)])) (List.toArray []))) ::
  ((nat_lit 330), (Obj.mk (Value.type "function") Option.none (Data.func (FuncData.mk (Str.ofString "add_instruction") (Str.ofString "Tree.add_instruction") p_22_8.1 (.stmts b_22_8.1) s_22_8.1 3 [] Value.none Value.none Value.none (Value.str (Str.ofString "markupmill.tree") 514) Option.none (Value.ref 329) Value.none 0)) (List.toArray []))) ::
  ((nat_lit 331), (Obj.mk (Value.type "tuple") Option.none (Data.seq (List.toArray []) 0) (List.toArray []))) ::
  ((nat_lit 333), (Obj.mk (Value.type "tuple") Option.none (Data.seq (List.toArray [(Value.str (Str.ofString "self") 664), (Value.str (Str.ofString "element") 665), (Value.str (Str.ofString "row") 666)]) 0) (List.toArray []))) ::
  ((nat_lit 334), (Obj.mk (Value.type "tuple") Option.none (Data.seq (List.toArray []) 0) (List.toArray []))) ::
  ((nat_lit 336), (Obj.mk (Value.type "code") Option.none (Data.fields (List.toArray [(Value.str (Str.ofString "element_row") 661), (Value.str (Str.ofString "Tree.element_row") 662), (Value.str (Str.ofString "/claim/cut.py") 663), (Value.int 183 0), (Value.int 2 0), (Value.int 0 0), (Value.int 0 0), (Value.int 3 0), (Value.ref 331), (Value.bool Bool.true), (Value.int 181 0), (Value.ref 332), Value.none, (Value.ref 333), (Value.ref 334), (Value.ref 335), (Value.int 667 0), (Value.int 183 0), (Value.str (Str.ofString "/claim/cut.py") 668)])) (List.toArray []))) ::
  ((nat_lit 337), (Obj.mk (Value.type "function") Option.none (Data.func (FuncData.mk (Str.ofString "element_row") (Str.ofString "Tree.element_row") p_22_9.1 (.stmts b_22_9.1) s_22_9.1 3 [] Value.none Value.none Value.none (Value.str (Str.ofString "markupmill.tree") 514) Option.none (Value.ref 336) Value.none 0)) (List.toArray []))) ::
  ((nat_lit 338), (Obj.mk (Value.type "tuple") Option.none (Data.seq (List.toArray []) 0) (List.toArray []))) ::
  ((nat_lit 340), (Obj.mk (Value.type "tuple") Option.none (Data.seq (List.toArray [(Value.str (Str.ofString "self") 673), (Value.str (Str.ofString "element") 674), (Value.str (Str.ofString "name") 675), (Value.str (Str.ofString "uri") 676), (Value.str (Str.ofString "local") 677), (Value.str (Str.ofString "value") 678), (Value.str (Str.ofString "row") 679), (Value.str (Str.ofString "node") 680), (Value.str (Str.ofString "known") 681)]) 0) (List.toArray []))) ::
  ((nat_lit 341), (Obj.mk (Value.type "tuple") Option.none (Data.seq (List.toArray []) 0) (List.toArray []))) ::
  ((nat_lit 343), (Obj.mk (Value.type "code") Option.none (Data.fields (List.toArray [(Value.str (Str.ofString "set_attribute") 670), (Value.str (Str.ofString "Tree.set_attribute") 671), (Value.str (Str.ofString "/claim/cut.py") 672), (Value.int 189 0), (Value.int 6 0), (Value.int 0 0), (Value.int 0 0), (Value.int 3 0), (Value.ref 338), (Value.bool Bool.true), (Value.int 181 0), (Value.ref 339), Value.none, (Value.ref 340), (Value.ref 341), (Value.ref 342), (Value.int 682 0), (Value.int 189 0), (Value.str (Str.ofString "/claim/cut.py") 683)])) (List.toArray []))) ::
  ((nat_lit 344), (Obj.mk (Value.type "function") Option.none (Data.func (FuncData.mk (Str.ofString "set_attribute") (Str.ofString "Tree.set_attribute") p_22_10.1 (.stmts b_22_10.1) s_22_10.1 3 [] Value.none Value.none Value.none (Value.str (Str.ofString "markupmill.tree") 514) Option.none (Value.ref 343) Value.none 0)) (List.toArray []))) ::
  ((nat_lit 345), (Obj.mk (Value.type "tuple") Option.none (Data.seq (List.toArray []) 0) (List.toArray []))) ::
  ((nat_lit 347), (Obj.mk (Value.type "tuple") Option.none (Data.seq (List.toArray [(Value.str (Str.ofString "self") 688), (Value.str (Str.ofString "element") 689), (Value.str (Str.ofString "prefix") 690), (Value.str (Str.ofString "uri") 691)]) 0) (List.toArray []))) ::
  ((nat_lit 348), (Obj.mk (Value.type "tuple") Option.none (Data.seq (List.toArray []) 0) (List.toArray []))) ::
  ((nat_lit 350), (Obj.mk (Value.type "code") Option.none (Data.fields (List.toArray [(Value.str (Str.ofString "add_namespace") 685), (Value.str (Str.ofString "Tree.add_namespace") 686), (Value.str (Str.ofString "/claim/cut.py") 687), (Value.int 201 0), (Value.int 4 0), (Value.int 0 0), (Value.int 0 0), (Value.int 3 0), (Value.ref 345), (Value.bool Bool.true), (Value.int 181 0), (Value.ref 346), Value.none, (Value.ref 347), (Value.ref 348), (Value.ref 349), (Value.int 692 0), (Value.int 201 0), (Value.str (Str.ofString "/claim/cut.py") 693)])) (List.toArray []))) ::
  ((nat_lit 351), (Obj.mk (Value.type "function") Option.none (Data.func (FuncData.mk (Str.ofString "add_namespace") (Str.ofString "Tree.add_namespace") p_22_11.1 (.stmts b_22_11.1) s_22_11.1 3 [] Value.none Value.none Value.none (Value.str (Str.ofString "markupmill.tree") 514) Option.none (Value.ref 350) Value.none 0)) (List.toArray []))) ::
  ((nat_lit 352), (Obj.mk (Value.type "tuple") Option.none (Data.seq (List.toArray []) 0) (List.toArray []))) ::
  ((nat_lit 354), (Obj.mk (Value.type "tuple") Option.none (Data.seq (List.toArray [(Value.str (Str.ofString "self") 698), (Value.str (Str.ofString "node") 699), (Value.str (Str.ofString "value") 700)]) 0) (List.toArray []))) ::
  ((nat_lit 355), (Obj.mk (Value.type "tuple") Option.none (Data.seq (List.toArray []) 0) (List.toArray []))) ::
  ((nat_lit 357), (Obj.mk (Value.type "code") Option.none (Data.fields (List.toArray [(Value.str (Str.ofString "set_value") 695), (Value.str (Str.ofString "Tree.set_value") 696), (Value.str (Str.ofString "/claim/cut.py") 697), (Value.int 204 0), (Value.int 3 0), (Value.int 0 0), (Value.int 0 0), (Value.int 3 0), (Value.ref 352), (Value.bool Bool.true), (Value.int 181 0), (Value.ref 353), Value.none, (Value.ref 354), (Value.ref 355), (Value.ref 356), (Value.int 701 0), (Value.int 204 0), (Value.str (Str.ofString "/claim/cut.py") 702)])) (List.toArray []))) ::
  ((nat_lit 358), (Obj.mk (Value.type "function") Option.none (Data.func (FuncData.mk (Str.ofString "set_value") (Str.ofString "Tree.set_value") p_22_12.1 (.stmts b_22_12.1) s_22_12.1 3 [] Value.none Value.none Value.none (Value.str (Str.ofString "markupmill.tree") 514) Option.none (Value.ref 357) Value.none 0)) (List.toArray []))) ::
  ((nat_lit 359), (Obj.mk (Value.type "tuple") Option.none (Data.seq (List.toArray []) 0) (List.toArray []))) ::
  ((nat_lit 361), (Obj.mk (Value.type "tuple") Option.none (Data.seq (List.toArray [(Value.str (Str.ofString "self") 707), (Value.str (Str.ofString "node") 708)]) 0) (List.toArray []))) ::
  ((nat_lit 362), (Obj.mk (Value.type "tuple") Option.none (Data.seq (List.toArray []) 0) (List.toArray []))) ::
  ((nat_lit 364), (Obj.mk (Value.type "code") Option.none (Data.fields (List.toArray [(Value.str (Str.ofString "kind") 704), (Value.str (Str.ofString "Tree.kind") 705), (Value.str (Str.ofString "/claim/cut.py") 706), (Value.int 207 0), (Value.int 2 0), (Value.int 0 0), (Value.int 0 0), (Value.int 3 0), (Value.ref 359), (Value.bool Bool.true), (Value.int 181 0), (Value.ref 360), Value.none, (Value.ref 361), (Value.ref 362), (Value.ref 363), (Value.int 709 0), (Value.int 207 0), (Value.str (Str.ofString "/claim/cut.py") 710)])) (List.toArray []))) ::
  ((nat_lit 365), (Obj.mk (Value.type "function") Option.none (Data.func (FuncData.mk (Str.ofString "kind") (Str.ofString "Tree.kind") p_22_13.1 (.stmts b_22_13.1) s_22_13.1 3 [] Value.none Value.none Value.none (Value.str (Str.ofString "markupmill.tree") 514) Option.none (Value.ref 364) Value.none 0)) (List.toArray []))) ::
  ((nat_lit 366), (Obj.mk (Value.type "tuple") Option.none (Data.seq (List.toArray []) 0) (List.toArray []))) ::
  ((nat_lit 368), (Obj.mk (Value.type "tuple") Option.none (Data.seq (List.toArray [(Value.str (Str.ofString "self") 715), (Value.str (Str.ofString "node") 716)]) 0) (List.toArray []))) ::
  ((nat_lit 369), (Obj.mk (Value.type "tuple") Option.none (Data.seq (List.toArray []) 0) (List.toArray []))) ::
  ((nat_lit 371), (Obj.mk (Value.type "code") Option.none (Data.fields (List.toArray [(Value.str (Str.ofString "name") 712), (Value.str (Str.ofString "Tree.name") 713), (Value.str (Str.ofString "/claim/cut.py") 714), (Value.int 210 0), (Value.int 2 0), (Value.int 0 0), (Value.int 0 0), (Value.int 3 0), (Value.ref 366), (Value.bool Bool.true), (Value.int 181 0), (Value.ref 367), Value.none, (Value.ref 368), (Value.ref 369), (Value.ref 370), (Value.int 717 0), (Value.int 210 0), (Value.str (Str.ofString "/claim/cut.py") 718)])) (List.toArray []))) ::
  ((nat_lit 372), (Obj.mk (Value.type "function") Option.none (Data.func (FuncData.mk (Str.ofString "name") (Str.ofString "Tree.name") p_22_14.1 (.stmts b_22_14.1) s_22_14.1 3 [] Value.none Value.none Value.none (Value.str (Str.ofString "markupmill.tree") 514) Option.none (Value.ref 371) Value.none 0)) (List.toArray []))) ::
  ((nat_lit 373), (Obj.mk (Value.type "tuple") Option.none (Data.seq (List.toArray []) 0) (List.toArray []))) ::
  ((nat_lit 375), (Obj.mk (Value.type "tuple") Option.none (Data.seq (List.toArray [(Value.str (Str.ofString "self") 723), (Value.str (Str.ofString "node") 724)]) 0) (List.toArray []))) ::
  ((nat_lit 376), (Obj.mk (Value.type "tuple") Option.none (Data.seq (List.toArray []) 0) (List.toArray []))) ::
  ((nat_lit 378), (Obj.mk (Value.type "code") Option.none (Data.fields (List.toArray [(Value.str (Str.ofString "uri") 720), (Value.str (Str.ofString "Tree.uri") 721), (Value.str (Str.ofString "/claim/cut.py") 722), (Value.int 213 0), (Value.int 2 0), (Value.int 0 0), (Value.int 0 0), (Value.int 3 0), (Value.ref 373), (Value.bool Bool.true), (Value.int 181 0), (Value.ref 374), Value.none, (Value.ref 375), (Value.ref 376), (Value.ref 377), (Value.int 725 0), (Value.int 213 0), (Value.str (Str.ofString "/claim/cut.py") 726)])) (List.toArray []))) ::
  ((nat_lit 379), (Obj.mk (Value.type "function") Option.none (Data.func (FuncData.mk (Str.ofString "uri") (Str.ofString "Tree.uri") p_22_15.1 (.stmts b_22_15.1) s_22_15.1 3 [] Value.none Value.none Value.none (Value.str (Str.ofString "markupmill.tree") 514) Option.none (Value.ref 378) Value.none 0)) (List.toArray []))) ::
  ((nat_lit 380), (Obj.mk (Value.type "tuple") Option.none (Data.seq (List.toArray []) 0) (List.toArray []))) ::
  ((nat_lit 382), (Obj.mk (Value.type "tuple") Option.none (Data.seq (List.toArray [(Value.str (Str.ofString "self") 731), (Value.str (Str.ofString "node") 732)]) 0) (List.toArray []))) ::
  ((nat_lit 383), (Obj.mk (Value.type "tuple") Option.none (Data.seq (List.toArray []) 0) (List.toArray []))) ::
  ((nat_lit 385), (Obj.mk (Value.type "code") Option.none (Data.fields (List.toArray [(Value.str (Str.ofString "local") 728), (Value.str (Str.ofString "Tree.local") 729), (Value.str (Str.ofString "/claim/cut.py") 730), (Value.int 216 0), (Value.int 2 0), (Value.int 0 0), (Value.int 0 0), (Value.int 3 0), (Value.ref 380), (Value.bool Bool.true), (Value.int 181 0), (Value.ref 381), Value.none, (Value.ref 382), (Value.ref 383), (Value.ref 384), (Value.int 733 0), (Value.int 216 0), (Value.str (Str.ofString "/claim/cut.py") 734)])) (List.toArray []))) ::
  ((nat_lit 386), (Obj.mk (Value.type "function") Option.none (Data.func (FuncData.mk (Str.ofString "local") (Str.ofString "Tree.local") p_22_16.1 (.stmts b_22_16.1) s_22_16.1 3 [] Value.none Value.none Value.none (Value.str (Str.ofString "markupmill.tree") 514) Option.none (Value.ref 385) Value.none 0)) (List.toArray []))) ::
  ((nat_lit 387), (Obj.mk (Value.type "tuple") Option.none (Data.seq (List.toArray []) 0) (List.toArray []))) ::
  ((nat_lit 389), (Obj.mk (Value.type "tuple") Option.none (Data.seq (List.toArray [(Value.str (Str.ofString "self") 739), (Value.str (Str.ofString "node") 740)]) 0) (List.toArray []))) ::
  ((nat_lit 390), (Obj.mk (Value.type "tuple") Option.none (Data.seq (List.toArray []) 0) (List.toArray []))) ::
  ((nat_lit 392), (Obj.mk (Value.type "code") Option.none (Data.fields (List.toArray [(Value.str (Str.ofString "value") 736), (Value.str (Str.ofString "Tree.value") 737), (Value.str (Str.ofString "/claim/cut.py") 738), (Value.int 219 0), (Value.int 2 0), (Value.int 0 0), (Value.int 0 0), (Value.int 3 0), (Value.ref 387), (Value.bool Bool.true), (Value.int 181 0), (Value.ref 388), Value.none, (Value.ref 389), (Value.ref 390), (Value.ref 391), (Value.int 741 0), (Value.int 219 0), (Value.str (Str.ofString "/claim/cut.py") 742)])) (List.toArray []))) ::
  ((nat_lit 393), (Obj.mk (Value.type "function") Option.none (Data.func (FuncData.mk (Str.ofString "value") (Str.ofString "Tree.value") p_22_17.1 (.stmts b_22_17.1) s_22_17.1 3 [] Value.none Value.none Value.none (Value.str (Str.ofString "markupmill.tree") 514) Option.none (Value.ref 392) Value.none 0)) (List.toArray []))) ::
  ((nat_lit 394), (Obj.mk (Value.type "tuple") Option.none (Data.seq (List.toArray []) 0) (List.toArray []))) ::
  ((nat_lit 396), (Obj.mk (Value.type "tuple") Option.none (Data.seq (List.toArray [(Value.str (Str.ofString "self") 747), (Value.str (Str.ofString "node") 748)]) 0) (List.toArray []))) ::
  ((nat_lit 397), (Obj.mk (Value.type "tuple") Option.none (Data.seq (List.toArray []) 0) (List.toArray []))) ::
  ((nat_lit 399), (Obj.mk (Value.type "code") Option.none (Data.fields (List.toArray [(Value.str (Str.ofString "parent") 744), (Value.str (Str.ofString "Tree.parent") 745), (Value.str (Str.ofString "/claim/cut.py") 746), (Value.int 222 0), (Value.int 2 0), (Value.int 0 0), (Value.int 0 0), (Value.int 3 0), (Value.ref 394), (Value.bool Bool.true), (Value.int 181 0), (Value.ref 395), Value.none, (Value.ref 396), (Value.ref 397), (Value.ref 398), (Value.int 749 0), (Value.int 222 0), (Value.str (Str.ofString "/claim/cut.py") 750)])) (List.toArray []))) ::
  ((nat_lit 400), (Obj.mk (Value.type "function") Option.none (Data.func (FuncData.mk (Str.ofString "parent") (Str.ofString "Tree.parent") p_22_18.1 (.stmts b_22_18.1) s_22_18.1 3 [] Value.none Value.none Value.none (Value.str (Str.ofString "markupmill.tree") 514) Option.none (Value.ref 399) Value.none 0)) (List.toArray []))) ::
  ((nat_lit 401), (Obj.mk (Value.type "tuple") Option.none (Data.seq (List.toArray []) 0) (List.toArray []))) ::
  ((nat_lit 403), (Obj.mk (Value.type "tuple") Option.none (Data.seq (List.toArray [(Value.str (Str.ofString "self") 755), (Value.str (Str.ofString "node") 756)]) 0) (List.toArray []))) ::
  ((nat_lit 404), (Obj.mk (Value.type "tuple") Option.none (Data.seq (List.toArray []) 0) (List.toArray []))) ::
  ((nat_lit 406), (Obj.mk (Value.type "code") Option.none (Data.fields (List.toArray [(Value.str (Str.ofString "children") 752), (Value.str (Str.ofString "Tree.children") 753), (Value.str (Str.ofString "/claim/cut.py") 754), (Value.int 225 0), (Value.int 2 0), (Value.int 0 0), (Value.int 0 0), (Value.int 3 0), (Value.ref 401), (Value.bool Bool.true), (Value.int 181 0), (Value.ref 402), Value.none, (Value.ref 403), (Value.ref 404), (Value.ref 405), (Value.int 757 0), (Value.int 225 0), (Value.str (Str.ofString "/claim/cut.py") 758)])) (List.toArray []))) ::
  ((nat_lit 407), (Obj.mk (Value.type "function") Option.none (Data.func (FuncData.mk (Str.ofString "children") (Str.ofString "Tree.children") p_22_19.1 (.stmts b_22_19.1) s_22_19.1 3 [] Value.none Value.none Value.none (Value.str (Str.ofString "markupmill.tree") 514) Option.none (Value.ref 406) Value.none 0)) (List.toArray []))) ::
  ((nat_lit 408), (Obj.mk (Value.type "tuple") Option.none (Data.seq (List.toArray []) 0) (List.toArray []))) ::
  ((nat_lit 410), (Obj.mk (Value.type "tuple") Option.none (Data.seq (List.toArray [(Value.str (Str.ofString "self") 763), (Value.str (Str.ofString "node") 764)]) 0) (List.toArray []))) ::
  ((nat_lit 411), (Obj.mk (Value.type "tuple") Option.none (Data.seq (List.toArray []) 0) (List.toArray []))) ::
  ((nat_lit 413), (Obj.mk (Value.type "code") Option.none (Data.fields (List.toArray [(Value.str (Str.ofString "attributes") 760), (Value.str (Str.ofString "Tree.attributes") 761), (Value.str (Str.ofString "/claim/cut.py") 762), (Value.int 228 0), (Value.int 2 0), (Value.int 0 0), (Value.int 0 0), (Value.int 3 0), (Value.ref 408), (Value.bool Bool.true), (Value.int 181 0), (Value.ref 409), Value.none, (Value.ref 410), (Value.ref 411), (Value.ref 412), (Value.int 765 0), (Value.int 228 0), (Value.str (Str.ofString "/claim/cut.py") 766)])) (List.toArray []))) ::
  ((nat_lit 414), (Obj.mk (Value.type "function") Option.none (Data.func (FuncData.mk (Str.ofString "attributes") (Str.ofString "Tree.attributes") p_22_20.1 (.stmts b_22_20.1) s_22_20.1 3 [] Value.none Value.none Value.none (Value.str (Str.ofString "markupmill.tree") 514) Option.none (Value.ref 413) Value.none 0)) (List.toArray []))) ::
  ((nat_lit 415), (Obj.mk (Value.type "tuple") Option.none (Data.seq (List.toArray []) 0) (List.toArray []))) ::
  ((nat_lit 417), (Obj.mk (Value.type "tuple") Option.none (Data.seq (List.toArray [(Value.str (Str.ofString "self") 771), (Value.str (Str.ofString "node") 772)]) 0) (List.toArray []))) ::
  ((nat_lit 418), (Obj.mk (Value.type "tuple") Option.none (Data.seq (List.toArray []) 0) (List.toArray []))) ::
  ((nat_lit 420), (Obj.mk (Value.type "code") Option.none (Data.fields (List.toArray [(Value.str (Str.ofString "namespaces") 768), (Value.str (Str.ofString "Tree.namespaces") 769), (Value.str (Str.ofString "/claim/cut.py") 770), (Value.int 231 0), (Value.int 2 0), (Value.int 0 0), (Value.int 0 0), (Value.int 3 0), (Value.ref 415), (Value.bool Bool.true), (Value.int 181 0), (Value.ref 416), Value.none, (Value.ref 417), (Value.ref 418), (Value.ref 419), (Value.int 773 0), (Value.int 231 0), (Value.str (Str.ofString "/claim/cut.py") 774)])) (List.toArray []))) ::
  ((nat_lit 421), (Obj.mk (Value.type "function") Option.none (Data.func (FuncData.mk (Str.ofString "namespaces") (Str.ofString "Tree.namespaces") p_22_21.1 (.stmts b_22_21.1) s_22_21.1 3 [] Value.none Value.none Value.none (Value.str (Str.ofString "markupmill.tree") 514) Option.none (Value.ref 420) Value.none 0)) (List.toArray []))) ::
  ((nat_lit 422), (Obj.mk (Value.type "tuple") Option.none (Data.seq (List.toArray []) 0) (List.toArray []))) ::
  ((nat_lit 424), (Obj.mk (Value.type "tuple") Option.none (Data.seq (List.toArray [(Value.str (Str.ofString "self") 779), (Value.str (Str.ofString "node") 780)]) 0) (List.toArray []))) ::
  ((nat_lit 425), (Obj.mk (Value.type "tuple") Option.none (Data.seq (List.toArray []) 0) (List.toArray []))) ::
  ((nat_lit 427), (Obj.mk (Value.type "code") Option.none (Data.fields (List.toArray [(Value.str (Str.ofString "root_of") 776), (Value.str (Str.ofString "Tree.root_of") 777), (Value.str (Str.ofString "/claim/cut.py") 778), (Value.int 234 0), (Value.int 2 0), (Value.int 0 0), (Value.int 0 0), (Value.int 3 0), (Value.ref 422), (Value.bool Bool.true), (Value.int 181 0), (Value.ref 423), Value.none, (Value.ref 424), (Value.ref 425), (Value.ref 426), (Value.int 781 0), (Value.int 234 0), (Value.str (Str.ofString "/claim/cut.py") 782)])) (List.toArray []))) ::
  ((nat_lit 428), (Obj.mk (Value.type "function") Option.none (Data.func (FuncData.mk (Str.ofString "root_of") (Str.ofString "Tree.root_of") p_22_22.1 (.stmts b_22_22.1) s_22_22.1 3 [] Value.none Value.none Value.none (Value.str (Str.ofString "markupmill.tree") 514) Option.none (Value.ref 427) Value.none 0)) (List.toArray []))) ::
  ((nat_lit 429), (Obj.mk (Value.type "tuple") Option.none (Data.seq (List.toArray []) 0) (List.toArray []))) ::
  ((nat_lit 431), (Obj.mk (Value.type "tuple") Option.none (Data.seq (List.toArray [(Value.str (Str.ofString "self") 787), (Value.str (Str.ofString "node") 788), (Value.str (Str.ofString "other") 789)]) 0) (List.toArray []))) ::
  ((nat_lit 432), (Obj.mk (Value.type "tuple") Option.none (Data.seq (List.toArray []) 0) (List.toArray []))) ::
  ((nat_lit 434), (Obj.mk (Value.type "code") Option.none (Data.fields (List.toArray [(Value.str (Str.ofString "is_above") 784), (Value.str (Str.ofString "Tree.is_above") 785), (Value.str (Str.ofString "/claim/cut.py") 786), (Value.int 237 0), (Value.int 3 0), (Value.int 0 0), (Value.int 0 0), (Value.int 3 0), (Value.ref 429), (Value.bool Bool.true), (Value.int 181 0), (Value.ref 430), Value.none, (Value.ref 431), (Value.ref 432), (Value.ref 433), (Value.int 790 0), (Value.int 237 0), (Value.str (Str.ofString "/claim/cut.py") 791)])) (List.toArray []))) ::
  ((nat_lit 435), (Obj.mk (Value.type "function") Option.none (Data.func (FuncData.mk (Str.ofString "is_above") (Str.ofString "Tree.is_above") p_22_23.1 (.stmts b_22_23.1) s_22_23.1 3 [] Value.none Value.none Value.none (Value.str (Str.ofString "markupmill.tree") 514) Option.none (Value.ref 434) Value.none 0)) (List.toArray []))) ::
  ((nat_lit 436), (Obj.mk (Value.type "tuple") Option.none (Data.seq (List.toArray []) 0) (List.toArray []))) ::
  ((nat_lit 438), (Obj.mk (Value.type "tuple") Option.none (Data.seq (List.toArray [(Value.str (Str.ofString "self") 796), (Value.str (Str.ofString "element") 797), (Value.str (Str.ofString "uri") 798), (Value.str (Str.ofString "local") 799)]) 0) (List.toArray []))) ::
  ((nat_lit 439), (Obj.mk (Value.type "tuple") Option.none (Data.seq (List.toArray []) 0) (List.toArray []))) ::
  ((nat_lit 441), (Obj.mk (Value.type "code") Option.none (Data.fields (List.toArray [(Value.str (Str.ofString "attribute_value") 793), (Value.str (Str.ofString "Tree.attribute_value") 794), (Value.str (Str.ofString "/claim/cut.py") 795), (Value.int 240 0), (Value.int 4 0), (Value.int 0 0), (Value.int 0 0), (Value.int 3 0), (Value.ref 436), (Value.bool Bool.true), (Value.int 181 0), (Value.ref 437), Value.none, (Value.ref 438), (Value.ref 439), (Value.ref 440), (Value.int 800 0), (Value.int 240 0), (Value.str (Str.ofString "/claim/cut.py") 801)])) (List.toArray []))) ::
  ((nat_lit 442), (Obj.mk (Value.type "function") Option.none (Data.func (FuncData.mk (Str.ofString "attribute_value") (Str.ofString "Tree.attribute_value") p_22_24.1 (.stmts b_22_24.1) s_22_24.1 3 [] Value.none Value.none Value.none (Value.str (Str.ofString "markupmill.tree") 514) Option.none (Value.ref 441) Value.none 0)) (List.toArray []))) ::
  ((nat_lit 443), (Obj.mk (Value.type "tuple") Option.none (Data.seq (List.toArray [(Value.str (Str.ofString "rows") 803)]) 0) (List.toArray []))) ::
  ((nat_lit 444), (Obj.mk (Value.type "dict") Option.none (Data.dict (List.toArray [(DictEntry.mk (PyData.keyHash P (Str.ofString "__module__")) (Value.str (Str.ofString "__module__") 568) (Value.str (Str.ofString "markupmill.tree") 514)), (DictEntry.mk (PyData.keyHash P (Str.ofString "__firstlineno__")) (Value.str (Str.ofString "__firstlineno__") 572) (Value.int 146 571)), (DictEntry.mk (PyData.keyHash P (Str.ofString "__init__")) (Value.str (Str.ofString "__init__") 579) (Value.ref 274)), (DictEntry.mk (PyData.keyHash P (Str.ofString "new_row")) (Value.str (Str.ofString "new_row") 592) (Value.ref 281)), (DictEntry.mk (PyData.keyHash P (Str.ofString "row")) (Value.str (Str.ofString "row") 600) (Value.ref 288)), (DictEntry.mk (PyData.keyHash P (Str.ofString "new_root")) (Value.str (Str.ofString "new_root") 607) (Value.ref 295)), (DictEntry.mk (PyData.keyHash P (Str.ofString "add_child")) (Value.str (Str.ofString "add_child") 621) (Value.ref 302)), (DictEntry.mk (PyData.keyHash P (Str.ofString "add_element")) (Value.str (Str.ofString "add_element") 632) (Value.ref 309)), (DictEntry.mk (PyData.keyHash P (Str.ofString "add_text")) (Value.str (Str.ofString "add_text") 641) (Value.ref 316)), (DictEntry.mk (PyData.keyHash P (Str.ofString "add_comment")) (Value.str (Str.ofString "add_comment") 650) (Value.ref 323)), (DictEntry.mk (PyData.keyHash P (Str.ofString "add_instruction")) (Value.str (Str.ofString "add_instruction") 660) (Value.ref 330)), (DictEntry.mk (PyData.keyHash P (Str.ofString "element_row")) (Value.str (Str.ofString "element_row") 669) (Value.ref 337)), (DictEntry.mk (PyData.keyHash P (Str.ofString "set_attribute")) (Value.str (Str.ofString "set_attribute") 684) (Value.ref 344)), (DictEntry.mk (PyData.keyHash P (Str.ofString "add_namespace")) (Value.str (Str.ofString "add_namespace") 694) (Value.ref 351)), (DictEntry.mk (PyData.keyHash P (Str.ofString "set_value")) (Value.str (Str.ofString "set_value") 703) (Value.ref 358)), (DictEntry.mk (PyData.keyHash P (Str.ofString "kind")) (Value.str (Str.ofString "kind") 711) (Value.ref 365)), (DictEntry.mk (PyData.keyHash P (Str.ofString "name")) (Value.str (Str.ofString "name") 719) (Value.ref 372)), (DictEntry.mk (PyData.keyHash P (Str.ofString "uri")) (Value.str (Str.ofString "uri") 727) (Value.ref 379)), (DictEntry.mk (PyData.keyHash P (Str.ofString "local")) (Value.str (Str.ofString "local") 735) (Value.ref 386)), (DictEntry.mk (PyData.keyHash P (Str.ofString "value")) (Value.str (Str.ofString "value") 743) (Value.ref 393)), (DictEntry.mk (PyData.keyHash P (Str.ofString "parent")) (Value.str (Str.ofString "parent") 751) (Value.ref 400)), (DictEntry.mk (PyData.keyHash P (Str.ofString "children")) (Value.str (Str.ofString "children") 759) (Value.ref 407)), (DictEntry.mk (PyData.keyHash P (Str.ofString "attributes")) (Value.str (Str.ofString "attributes") 767) (Value.ref 414)), (DictEntry.mk (PyData.keyHash P (Str.ofString "namespaces")) (Value.str (Str.ofString "namespaces") 775) (Value.ref 421)), (DictEntry.mk (PyData.keyHash P (Str.ofString "root_of")) (Value.str (Str.ofString "root_of") 783) (Value.ref 428)), (DictEntry.mk (PyData.keyHash P (Str.ofString "is_above")) (Value.str (Str.ofString "is_above") 792) (Value.ref 435)), (DictEntry.mk (PyData.keyHash P (Str.ofString "attribute_value")) (Value.str (Str.ofString "attribute_value") 802) (Value.ref 442)), (DictEntry.mk (PyData.keyHash P (Str.ofString "__static_attributes__")) (Value.str (Str.ofString "__static_attributes__") 804) (Value.ref 443)), (DictEntry.mk (PyData.keyHash P (Str.ofString "__dict__")) (Value.str (Str.ofString "__dict__") 806) (Value.ref 446)), (DictEntry.mk (PyData.keyHash P (Str.ofString "__weakref__")) (Value.str (Str.ofString "__weakref__") 808) (Value.ref 447)), (DictEntry.mk (PyData.keyHash P (Str.ofString "__doc__")) (Value.str (Str.ofString "__doc__") 809) Value.none)]) 4) (List.toArray []))) ::
  ((nat_lit 445), (Obj.mk (Value.type "type") Option.none (Data.cls (ClassData.mk (Str.ofString "Tree") [(Value.type "object")] [(Value.ref 445), (Value.type "object")] 444 (Str.ofString "Tree") Bool.true [] [] Bool.false Option.none Bool.false)) (List.toArray [Option.none, Option.none, (Option.some (Value.str (Str.ofString "Tree") 561)), (Option.some (Value.str (Str.ofString "Tree") 569)), (Option.some (Value.builtin "object.__new__")), (Option.some (Value.bool Bool.true))]))) ::
  ((nat_lit 446), (Obj.mk (Value.type "getset_descriptor") Option.none (Data.fields (List.toArray [(Value.str (Str.ofString "__dict__") 805), (Value.ref 445), (Value.builtin "function.__dict__"), (Value.builtin "function.__dict__#set")])) (List.toArray []))) ::
  ((nat_lit 447), (Obj.mk (Value.type "getset_descriptor") Option.none (Data.fields (List.toArray [(Value.str (Str.ofString "__weakref__") 807), (Value.ref 445), (Value.builtin "ExceptionGroup.__weakref__"), Value.none])) (List.toArray []))) ::
  ((nat_lit 450), (Obj.mk (Value.type "tuple") Option.none (Data.seq (List.toArray []) 0) (List.toArray []))) ::
  ((nat_lit 452), (Obj.mk (Value.type "tuple") Option.none (Data.seq (List.toArray [(Value.str (Str.ofString "script") 817), (Value.str (Str.ofString "k") 818), (Value.str (Str.ofString "cell") 819), (Value.str (Str.ofString "big") 820), (Value.str (Str.ofString "mixed") 821)]) 0) (List.toArray []))) ::
  ((nat_lit 453), (Obj.mk (Value.type "tuple") Option.none (Data.seq (List.toArray []) 0) (List.toArray []))) ::
  ((nat_lit 455), (Obj.mk (Value.type "code") Option.none (Data.fields (List.toArray [(Value.str (Str.ofString "_law_pool") 814), (Value.str (Str.ofString "_law_pool") 815), (Value.str (Str.ofString "/claim/cut.py") 816), (Value.int 243 0), (Value.int 2 0), (Value.int 0 0), (Value.int 0 0), (Value.int 3 0), (Value.ref 450), (Value.bool Bool.true), (Value.int 181 0), (Value.ref 451), Value.none, (Value.ref 452), (Value.ref 453), (Value.ref 454), (Value.int 822 0), (Value.int 243 0), (Value.str (Str.ofString "/claim/cut.py") 823)])) (List.toArray []))) ::
  ((nat_lit 456), (Obj.mk (Value.type "function") Option.none (Data.func (FuncData.mk (Str.ofString "_law_pool") (Str.ofString "_law_pool") p_24.1 (.stmts b_24.1) s_24.1 3 [] Value.none Value.none Value.none (Value.str (Str.ofString "law_nu0068_01") 812) Option.none (Value.ref 455) Value.none 0)) (List.toArray []))) ::
  ((nat_lit 457), (Obj.mk (Value.type "tuple") Option.none (Data.seq (List.toArray []) 0) (List.toArray []))) ::
  ((nat_lit 459), (Obj.mk (Value.type "tuple") Option.none (Data.seq (List.toArray [(Value.str (Str.ofString "source") 828), (Value.str (Str.ofString "top") 829), (Value.str (Str.ofString "drawn") 830)]) 0) (List.toArray []))) ::
  ((nat_lit 460), (Obj.mk (Value.type "tuple") Option.none (Data.seq (List.toArray []) 0) (List.toArray []))) ::
  ((nat_lit 462), (Obj.mk (Value.type "code") Option.none (Data.fields (List.toArray [(Value.str (Str.ofString "_law_take") 825), (Value.str (Str.ofString "_law_take") 826), (Value.str (Str.ofString "/claim/cut.py") 827), (Value.int 250 0), (Value.int 2 0), (Value.int 0 0), (Value.int 0 0), (Value.int 3 0), (Value.ref 457), (Value.bool Bool.true), (Value.int 181 0), (Value.ref 458), Value.none, (Value.ref 459), (Value.ref 460), (Value.ref 461), (Value.int 831 0), (Value.int 250 0), (Value.str (Str.ofString "/claim/cut.py") 832)])) (List.toArray []))) ::
  ((nat_lit 463), (Obj.mk (Value.type "function") Option.none (Data.func (FuncData.mk (Str.ofString "_law_take") (Str.ofString "_law_take") p_25.1 (.stmts b_25.1) s_25.1 3 [] Value.none Value.none Value.none (Value.str (Str.ofString "law_nu0068_01") 812) Option.none (Value.ref 462) Value.none 0)) (List.toArray []))) ::
  ((nat_lit 464), (Obj.mk (Value.type "tuple") Option.none (Data.seq (List.toArray []) 0) (List.toArray []))) ::
  ((nat_lit 466), (Obj.mk (Value.type "tuple") Option.none (Data.seq (List.toArray [(Value.str (Str.ofString "source") 837), (Value.str (Str.ofString "things") 838)]) 0) (List.toArray []))) ::
  ((nat_lit 467), (Obj.mk (Value.type "tuple") Option.none (Data.seq (List.toArray []) 0) (List.toArray []))) ::
  ((nat_lit 469), (Obj.mk (Value.type "code") Option.none (Data.fields (List.toArray [(Value.str (Str.ofString "_law_one") 834), (Value.str (Str.ofString "_law_one") 835), (Value.str (Str.ofString "/claim/cut.py") 836), (Value.int 257 0), (Value.int 2 0), (Value.int 0 0), (Value.int 0 0), (Value.int 3 0), (Value.ref 464), (Value.bool Bool.true), (Value.int 181 0), (Value.ref 465), Value.none, (Value.ref 466), (Value.ref 467), (Value.ref 468), (Value.int 839 0), (Value.int 257 0), (Value.str (Str.ofString "/claim/cut.py") 840)])) (List.toArray []))) ::
  ((nat_lit 470), (Obj.mk (Value.type "function") Option.none (Data.func (FuncData.mk (Str.ofString "_law_one") (Str.ofString "_law_one") p_26.1 (.stmts b_26.1) s_26.1 3 [] Value.none Value.none Value.none (Value.str (Str.ofString "law_nu0068_01") 812) Option.none (Value.ref 469) Value.none 0)) (List.toArray []))) ::
  ((nat_lit 471), (Obj.mk (Value.type "tuple") Option.none (Data.seq (List.toArray []) 0) (List.toArray []))) ::
  ((nat_lit 473), (Obj.mk (Value.type "tuple") Option.none (Data.seq (List.toArray [(Value.str (Str.ofString "source") 845), (Value.str (Str.ofString "kinds") 846), (Value.str (Str.ofString "dtd") 847), (Value.str (Str.ofString "element") 848), (Value.str (Str.ofString "name") 849)]) 0) (List.toArray []))) ::
  ((nat_lit 474), (Obj.mk (Value.type "tuple") Option.none (Data.seq (List.toArray []) 0) (List.toArray []))) ::
  ((nat_lit 476), (Obj.mk (Value.type "code") Option.none (Data.fields (List.toArray [(Value.str (Str.ofString "_law_rules") 842), (Value.str (Str.ofString "_law_rules") 843), (Value.str (Str.ofString "/claim/cut.py") 844), (Value.int 259 0), (Value.int 1 0), (Value.int 0 0), (Value.int 0 0), (Value.int 3 0), (Value.ref 471), (Value.bool Bool.true), (Value.int 181 0), (Value.ref 472), Value.none, (Value.ref 473), (Value.ref 474), (Value.ref 475), (Value.int 850 0), (Value.int 259 0), (Value.str (Str.ofString "/claim/cut.py") 851)])) (List.toArray []))) ::
  ((nat_lit 477), (Obj.mk (Value.type "function") Option.none (Data.func (FuncData.mk (Str.ofString "_law_rules") (Str.ofString "_law_rules") p_27.1 (.stmts b_27.1) s_27.1 3 [] Value.none Value.none Value.none (Value.str (Str.ofString "law_nu0068_01") 812) Option.none (Value.ref 476) Value.none 0)) (List.toArray []))) ::
  ((nat_lit 478), (Obj.mk (Value.type "tuple") Option.none (Data.seq (List.toArray []) 0) (List.toArray []))) ::
  ((nat_lit 481), (Obj.mk (Value.type "code") Option.none (Data.fields (List.toArray [(Value.str (Str.ofString "_law_value") 853), (Value.str (Str.ofString "_law_value") 854), (Value.str (Str.ofString "/claim/cut.py") 855), (Value.int 268 0), (Value.int 1 0), (Value.int 0 0), (Value.int 0 0), (Value.int 3 0), (Value.ref 478), (Value.bool Bool.true), (Value.int 181 0), (Value.ref 479), Value.none, Value.none, Value.none, (Value.ref 480), (Value.int 856 0), (Value.int 268 0), (Value.str (Str.ofString "/claim/cut.py") 857)])) (List.toArray []))) ::
  ((nat_lit 482), (Obj.mk (Value.type "function") Option.none (Data.func (FuncData.mk (Str.ofString "_law_value") (Str.ofString "_law_value") p_28.1 (.stmts b_28.1) s_28.1 3 [] Value.none Value.none Value.none (Value.str (Str.ofString "law_nu0068_01") 812) Option.none (Value.ref 481) Value.none 0)) (List.toArray []))) ::
  ((nat_lit 483), (Obj.mk (Value.type "tuple") Option.none (Data.seq (List.toArray []) 0) (List.toArray []))) ::
  ((nat_lit 485), (Obj.mk (Value.type "tuple") Option.none (Data.seq (List.toArray [(Value.str (Str.ofString "source") 862), (Value.str (Str.ofString "tree") 863), (Value.str (Str.ofString "rows") 864), (Value.str (Str.ofString "root") 865), (Value.str (Str.ofString "at") 866), (Value.str (Str.ofString "above") 867), (Value.str (Str.ofString "name") 868), (Value.str (Str.ofString "node") 869), (Value.str (Str.ofString "row") 870), (Value.str (Str.ofString "told") 871), (Value.str (Str.ofString "value") 872), (Value.str (Str.ofString "words") 873)]) 0) (List.toArray []))) ::
  ((nat_lit 486), (Obj.mk (Value.type "tuple") Option.none (Data.seq (List.toArray []) 0) (List.toArray []))) ::
  ((nat_lit 488), (Obj.mk (Value.type "code") Option.none (Data.fields (List.toArray [(Value.str (Str.ofString "_law_drawn") 859), (Value.str (Str.ofString "_law_drawn") 860), (Value.str (Str.ofString "/claim/cut.py") 861), (Value.int 272 0), (Value.int 1 0), (Value.int 0 0), (Value.int 0 0), (Value.int 3 0), (Value.ref 483), (Value.bool Bool.true), (Value.int 181 0), (Value.ref 484), Value.none, (Value.ref 485), (Value.ref 486), (Value.ref 487), (Value.int 874 0), (Value.int 272 0), (Value.str (Str.ofString "/claim/cut.py") 875)])) (List.toArray []))) ::
  ((nat_lit 489), (Obj.mk (Value.type "function") Option.none (Data.func (FuncData.mk (Str.ofString "_law_drawn") (Str.ofString "_law_drawn") p_29.1 (.stmts b_29.1) s_29.1 3 [] Value.none Value.none Value.none (Value.str (Str.ofString "law_nu0068_01") 812) Option.none (Value.ref 488) Value.none 0)) (List.toArray []))) ::
  ((nat_lit 490), (Obj.mk (Value.type "tuple") Option.none (Data.seq (List.toArray []) 0) (List.toArray []))) ::
  ((nat_lit 492), (Obj.mk (Value.type "tuple") Option.none (Data.seq (List.toArray [(Value.str (Str.ofString "rows") 880), (Value.str (Str.ofString "above") 881), (Value.str (Str.ofString "found") 882), (Value.str (Str.ofString "at") 883)]) 0) (List.toArray []))) ::
  ((nat_lit 493), (Obj.mk (Value.type "tuple") Option.none (Data.seq (List.toArray []) 0) (List.toArray []))) ::
  ((nat_lit 495), (Obj.mk (Value.type "code") Option.none (Data.fields (List.toArray [(Value.str (Str.ofString "_law_order") 877), (Value.str (Str.ofString "_law_order") 878), (Value.str (Str.ofString "/claim/cut.py") 879), (Value.int 289 0), (Value.int 2 0), (Value.int 0 0), (Value.int 0 0), (Value.int 3 0), (Value.ref 490), (Value.bool Bool.true), (Value.int 181 0), (Value.ref 491), Value.none, (Value.ref 492), (Value.ref 493), (Value.ref 494), (Value.int 884 0), (Value.int 289 0), (Value.str (Str.ofString "/claim/cut.py") 885)])) (List.toArray []))) ::
  ((nat_lit 496), (Obj.mk (Value.type "function") Option.none (Data.func (FuncData.mk (Str.ofString "_law_order") (Str.ofString "_law_order") p_30.1 (.stmts b_30.1) s_30.1 3 [] Value.none Value.none Value.none (Value.str (Str.ofString "law_nu0068_01") 812) Option.none (Value.ref 495) Value.none 0)) (List.toArray []))) ::
  ((nat_lit 497), (Obj.mk (Value.type "tuple") Option.none (Data.seq (List.toArray []) 0) (List.toArray []))) ::
  ((nat_lit 499), (Obj.mk (Value.type "tuple") Option.none (Data.seq (List.toArray [(Value.str (Str.ofString "kinds") 890), (Value.str (Str.ofString "row") 891), (Value.str (Str.ofString "name") 892)]) 0) (List.toArray []))) ::
  ((nat_lit 500), (Obj.mk (Value.type "tuple") Option.none (Data.seq (List.toArray []) 0) (List.toArray []))) ::
  ((nat_lit 502), (Obj.mk (Value.type "code") Option.none (Data.fields (List.toArray [(Value.str (Str.ofString "_law_id") 887), (Value.str (Str.ofString "_law_id") 888), (Value.str (Str.ofString "/claim/cut.py") 889), (Value.int 295 0), (Value.int 2 0), (Value.int 0 0), (Value.int 0 0), (Value.int 3 0), (Value.ref 497), (Value.bool Bool.true), (Value.int 181 0), (Value.ref 498), Value.none, (Value.ref 499), (Value.ref 500), (Value.ref 501), (Value.int 893 0), (Value.int 295 0), (Value.str (Str.ofString "/claim/cut.py") 894)])) (List.toArray []))) ::
  ((nat_lit 503), (Obj.mk (Value.type "function") Option.none (Data.func (FuncData.mk (Str.ofString "_law_id") (Str.ofString "_law_id") p_31.1 (.stmts b_31.1) s_31.1 3 [] Value.none Value.none Value.none (Value.str (Str.ofString "law_nu0068_01") 812) Option.none (Value.ref 502) Value.none 0)) (List.toArray []))) ::
  ((nat_lit 504), (Obj.mk (Value.type "tuple") Option.none (Data.seq (List.toArray []) 0) (List.toArray []))) ::
  ((nat_lit 507), (Obj.mk (Value.type "code") Option.none (Data.fields (List.toArray [(Value.str (Str.ofString "_law_references") 896), (Value.str (Str.ofString "_law_references") 897), (Value.str (Str.ofString "/claim/cut.py") 898), (Value.int 300 0), (Value.int 2 0), (Value.int 0 0), (Value.int 0 0), (Value.int 3 0), (Value.ref 504), (Value.bool Bool.true), (Value.int 181 0), (Value.ref 505), Value.none, Value.none, Value.none, (Value.ref 506), (Value.int 899 0), (Value.int 300 0), (Value.str (Str.ofString "/claim/cut.py") 900)])) (List.toArray []))) ::
  ((nat_lit 508), (Obj.mk (Value.type "function") Option.none (Data.func (FuncData.mk (Str.ofString "_law_references") (Str.ofString "_law_references") p_32.1 (.stmts b_32.1) s_32.1 3 [] Value.none Value.none Value.none (Value.str (Str.ofString "law_nu0068_01") 812) Option.none (Value.ref 507) Value.none 0)) (List.toArray []))) ::
  ((nat_lit 509), (Obj.mk (Value.type "tuple") Option.none (Data.seq (List.toArray []) 0) (List.toArray []))) ::
  ((nat_lit 511), (Obj.mk (Value.type "tuple") Option.none (Data.seq (List.toArray [(Value.str (Str.ofString "dtd") 905), (Value.str (Str.ofString "tree") 906), (Value.str (Str.ofString "root") 907), (Value.str (Str.ofString "one") 908), (Value.str (Str.ofString "other") 909)]) 0) (List.toArray []))) ::
  ((nat_lit 512), (Obj.mk (Value.type "tuple") Option.none (Data.seq (List.toArray []) 0) (List.toArray []))) ::
  ((nat_lit 514), (Obj.mk (Value.type "code") Option.none (Data.fields (List.toArray [(Value.str (Str.ofString "_law_alike_right") 902), (Value.str (Str.ofString "_law_alike_right") 903), (Value.str (Str.ofString "/claim/cut.py") 904), (Value.int 306 0), (Value.int 0 0), (Value.int 0 0), (Value.int 0 0), (Value.int 3 0), (Value.ref 509), (Value.bool Bool.true), (Value.int 181 0), (Value.ref 510), Value.none, (Value.ref 511), (Value.ref 512), (Value.ref 513), (Value.int 910 0), (Value.int 306 0), (Value.str (Str.ofString "/claim/cut.py") 911)])) (List.toArray []))) ::
  ((nat_lit 515), (Obj.mk (Value.type "function") Option.none (Data.func (FuncData.mk (Str.ofString "_law_alike_right") (Str.ofString "_law_alike_right") p_33.1 (.stmts b_33.1) s_33.1 3 [] Value.none Value.none Value.none (Value.str (Str.ofString "law_nu0068_01") 812) Option.none (Value.ref 514) Value.none 0)) (List.toArray []))) ::
  ((nat_lit 516), (Obj.mk (Value.type "tuple") Option.none (Data.seq (List.toArray []) 0) (List.toArray []))) ::
  ((nat_lit 519), (Obj.mk (Value.type "code") Option.none (Data.fields (List.toArray [(Value.str (Str.ofString "law") 913), (Value.str (Str.ofString "law") 914), (Value.str (Str.ofString "/claim/cut.py") 915), (Value.int 315 0), (Value.int 1 0), (Value.int 0 0), (Value.int 0 0), (Value.int 3 0), (Value.ref 516), (Value.bool Bool.true), (Value.int 181 0), (Value.ref 517), Value.none, Value.none, Value.none, (Value.ref 518), (Value.int 916 0), (Value.int 315 0), (Value.str (Str.ofString "/claim/cut.py") 917)])) (List.toArray []))) ::
  ((nat_lit 520), (Obj.mk (Value.type "function") Option.none (Data.func (FuncData.mk (Str.ofString "law") (Str.ofString "law") p_34.1 (.stmts b_34.1) s_34.1 3 [] Value.none Value.none Value.none (Value.str (Str.ofString "law_nu0068_01") 812) Option.none (Value.ref 519) Value.none 0)) (List.toArray []))) :: []
noncomputable def KA : List Addr := nat_lit 2 :: nat_lit 3 :: nat_lit 15 :: nat_lit 17 :: nat_lit 18 :: nat_lit 20 :: nat_lit 21 :: nat_lit 22 :: nat_lit 24 :: nat_lit 25 :: nat_lit 27 :: nat_lit 28 :: nat_lit 29 :: nat_lit 31 :: nat_lit 32 :: nat_lit 34 :: nat_lit 35 :: nat_lit 36 :: nat_lit 38 :: nat_lit 39 :: nat_lit 41 :: nat_lit 42 :: nat_lit 43 :: nat_lit 45 :: nat_lit 46 :: nat_lit 48 :: nat_lit 49 :: nat_lit 50 :: nat_lit 52 :: nat_lit 53 :: nat_lit 55 :: nat_lit 56 :: nat_lit 57 :: nat_lit 59 :: nat_lit 60 :: nat_lit 62 :: nat_lit 63 :: nat_lit 64 :: nat_lit 66 :: nat_lit 67 :: nat_lit 69 :: nat_lit 70 :: nat_lit 71 :: nat_lit 74 :: nat_lit 75 :: nat_lit 83 :: nat_lit 85 :: nat_lit 86 :: nat_lit 88 :: nat_lit 89 :: nat_lit 90 :: nat_lit 92 :: nat_lit 93 :: nat_lit 95 :: nat_lit 96 :: nat_lit 97 :: nat_lit 99 :: nat_lit 100 :: nat_lit 102 :: nat_lit 103 :: nat_lit 104 :: nat_lit 105 :: nat_lit 106 :: nat_lit 107 :: nat_lit 108 :: nat_lit 111 :: nat_lit 118 :: nat_lit 120 :: nat_lit 121 :: nat_lit 123 :: nat_lit 124 :: nat_lit 125 :: nat_lit 126 :: nat_lit 127 :: nat_lit 128 :: nat_lit 131 :: nat_lit 138 :: nat_lit 139 :: nat_lit 140 :: nat_lit 150 :: nat_lit 152 :: nat_lit 153 :: nat_lit 155 :: nat_lit 156 :: nat_lit 157 :: nat_lit 159 :: nat_lit 160 :: nat_lit 162 :: nat_lit 163 :: nat_lit 164 :: nat_lit 166 :: nat_lit 167 :: nat_lit 169 :: nat_lit 170 :: nat_lit 171 :: nat_lit 173 :: nat_lit 174 :: nat_lit 176 :: nat_lit 177 :: nat_lit 178 :: nat_lit 180 :: nat_lit 181 :: nat_lit 183 :: nat_lit 184 :: nat_lit 185 :: nat_lit 187 :: nat_lit 188 :: nat_lit 190 :: nat_lit 191 :: nat_lit 192 :: nat_lit 194 :: nat_lit 195 :: nat_lit 197 :: nat_lit 198 :: nat_lit 199 :: nat_lit 202 :: nat_lit 203 :: nat_lit 204 :: nat_lit 206 :: nat_lit 207 :: nat_lit 209 :: nat_lit 210 :: nat_lit 211 :: nat_lit 213 :: nat_lit 214 :: nat_lit 216 :: nat_lit 217 :: nat_lit 218 :: nat_lit 220 :: nat_lit 221 :: nat_lit 223 :: nat_lit 224 :: nat_lit 225 :: nat_lit 227 :: nat_lit 228 :: nat_lit 230 :: nat_lit 231 :: nat_lit 232 :: nat_lit 233 :: nat_lit 234 :: nat_lit 235 :: nat_lit 236 :: nat_lit 239 :: nat_lit 247 :: nat_lit 249 :: nat_lit 250 :: nat_lit 252 :: nat_lit 253 :: nat_lit 254 :: nat_lit 255 :: nat_lit 256 :: nat_lit 257 :: nat_lit 258 :: nat_lit 268 :: nat_lit 270 :: nat_lit 271 :: nat_lit 273 :: nat_lit 274 :: nat_lit 275 :: nat_lit 277 :: nat_lit 278 :: nat_lit 280 :: nat_lit 281 :: nat_lit 282 :: nat_lit 284 :: nat_lit 285 :: nat_lit 287 :: nat_lit 288 :: nat_lit 289 :: nat_lit 291 :: nat_lit 292 :: nat_lit 294 :: nat_lit 295 :: nat_lit 296 :: nat_lit 298 :: nat_lit 299 :: nat_lit 301 :: nat_lit 302 :: nat_lit 303 :: nat_lit 305 :: nat_lit 306 :: nat_lit 308 :: nat_lit 309 :: nat_lit 310 :: nat_lit 312 :: nat_lit 313 :: nat_lit 315 :: nat_lit 316 :: nat_lit 317 :: nat_lit 319 :: nat_lit 320 :: nat_lit 322 :: nat_lit 323 :: nat_lit 324 :: nat_lit 326 :: nat_lit 327 :: nat_lit 329 :: nat_lit 330 :: nat_lit 331 :: nat_lit 333 :: nat_lit 334 :: nat_lit 336 :: nat_lit 337 :: nat_lit 338 :: nat_lit 340 :: nat_lit 341 :: nat_lit 343 :: nat_lit 344 :: nat_lit 345 :: nat_lit 347 :: nat_lit 348 :: nat_lit 350 :: nat_lit 351 :: nat_lit 352 :: nat_lit 354 :: nat_lit 355 :: nat_lit 357 :: nat_lit 358 :: nat_lit 359 :: nat_lit 361 :: nat_lit 362 :: nat_lit 364 :: nat_lit 365 :: nat_lit 366 :: nat_lit 368 :: nat_lit 369 :: nat_lit 371 :: nat_lit 372 :: nat_lit 373 :: nat_lit 375 :: nat_lit 376 :: nat_lit 378 :: nat_lit 379 :: nat_lit 380 :: nat_lit 382 :: nat_lit 383 :: nat_lit 385 :: nat_lit 386 :: nat_lit 387 :: nat_lit 389 :: nat_lit 390 :: nat_lit 392 :: nat_lit 393 :: nat_lit 394 :: nat_lit 396 :: nat_lit 397 :: nat_lit 399 :: nat_lit 400 :: nat_lit 401 :: nat_lit 403 :: nat_lit 404 :: nat_lit 406 :: nat_lit 407 :: nat_lit 408 :: nat_lit 410 :: nat_lit 411 :: nat_lit 413 :: nat_lit 414 :: nat_lit 415 :: nat_lit 417 :: nat_lit 418 :: nat_lit 420 :: nat_lit 421 :: nat_lit 422 :: nat_lit 424 :: nat_lit 425 :: nat_lit 427 :: nat_lit 428 :: nat_lit 429 :: nat_lit 431 :: nat_lit 432 :: nat_lit 434 :: nat_lit 435 :: nat_lit 436 :: nat_lit 438 :: nat_lit 439 :: nat_lit 441 :: nat_lit 442 :: nat_lit 443 :: nat_lit 444 :: nat_lit 445 :: nat_lit 446 :: nat_lit 447 :: nat_lit 450 :: nat_lit 452 :: nat_lit 453 :: nat_lit 455 :: nat_lit 456 :: nat_lit 457 :: nat_lit 459 :: nat_lit 460 :: nat_lit 462 :: nat_lit 463 :: nat_lit 464 :: nat_lit 466 :: nat_lit 467 :: nat_lit 469 :: nat_lit 470 :: nat_lit 471 :: nat_lit 473 :: nat_lit 474 :: nat_lit 476 :: nat_lit 477 :: nat_lit 478 :: nat_lit 481 :: nat_lit 482 :: nat_lit 483 :: nat_lit 485 :: nat_lit 486 :: nat_lit 488 :: nat_lit 489 :: nat_lit 490 :: nat_lit 492 :: nat_lit 493 :: nat_lit 495 :: nat_lit 496 :: nat_lit 497 :: nat_lit 499 :: nat_lit 500 :: nat_lit 502 :: nat_lit 503 :: nat_lit 504 :: nat_lit 507 :: nat_lit 508 :: nat_lit 509 :: nat_lit 511 :: nat_lit 512 :: nat_lit 514 :: nat_lit 515 :: nat_lit 516 :: nat_lit 519 :: nat_lit 520 :: []
end Mine

open PySem PySem.W PyProof.Rows
set_option Elab.async false
namespace Mine
def topRunT (tb : String → Option Builtin) (p : Program) (w : World) (n₀ : Nat) (ann : Option Value) : Nat → SharedT → Thread → Option SharedT
  | 0, _, _ => none
  | n + 1, s, t => match through t with
    | true => some s
    | false => match stepOk n₀ ann t with
      | false => none
      | true => match stepT (denote tb) p w s t with
        | some (s', t') => topRunT tb p w n₀ ann n s' t'
        | none => none
theorem topRunT_of {tb : String → Option Builtin} {p : Program} {w : World} {n₀ : Nat} {ann : Option Value} : ∀ {n : Nat} {s s' : SharedT} {t : Thread}, topRunT tb p w n₀ ann n s t = some s' → topRun tb p w n₀ ann n s.abs t = some s'.abs
  | 0, _, _, _, h => by cases h
  | n + 1, s, s', t, h => by
    unfold topRunT at h
    unfold topRun
    cases ht : through t with
    | true => rw [ht] at h; cases h; rfl
    | false =>
      rw [ht] at h
      cases hk : stepOk n₀ ann t with
      | false => rw [hk] at h; cases h
      | true =>
        rw [hk] at h
        cases hs : stepT (denote tb) p w s t with
        | none => rw [hs] at h; cases h
        | some r => obtain ⟨s₂, t₂⟩ := r; rw [hs] at h; rw [stepT_spec hs]; exact topRunT_of h
noncomputable def bootTree (P : Params) : BT := (.node (boot_o_0 P) (.node (boot_o_1 P) (.node (boot_o_3 P) (.node (boot_o_7 P) .nil .nil) .nil) (.node (boot_o_5 P) (.node (boot_o_9 P) .nil .nil) .nil)) (.node (boot_o_2 P) (.node (boot_o_4 P) (.node (boot_o_8 P) .nil .nil) .nil) (.node (boot_o_6 P) (.node (boot_o_10 P) .nil .nil) .nil)))

noncomputable def bootT (w : World) (os : OsState) : SharedT := ⟨bootTree w.params, 11, {}, #[], boot_drawn, boot_toks, os⟩

def looks (p q : Program) (loose : List Str) (Xt : Shared → Bool) {α : Type} (y : α) (h₀ : Heap) (s : Shared) :=
  ((staticsOk (importedModules p.main.body) h₀ s.heap && namesBound p s.heap && gensDone s && laidKept h₀ s.heap), openSeen q loose (importedModules p.main.body) Xt true s, y)

noncomputable def check (p q : Program) (loose : List Str) (Xt : Shared → Bool) {α : Type} (Yt : SharedT → α) (N : Nat) (w : World) (os : OsState) :=
  (topRunT treeTable p w 11 (some (.ref 6)) N (bootT w os) (topStub p)).map fun s => looks p q loose Xt (Yt s) (absHeap (bootTree w.params) 11 {}) s.abs

def getT (s : SharedT) (a : Addr) : Option Obj := match Nat.blt a s.n with
  | true => match s.tree.get a with
    | some o => alive o
    | none => s.abs.heap.get? a
  | false => none
theorem getT_eq (s : SharedT) (a : Addr) : s.abs.heap.get? a = getT s a := by
  unfold getT
  cases hb : Nat.blt a s.n with
  | false => exact abs_get_none (fun h => by rw [Nat.blt_eq.mpr h] at hb; cases hb)
  | true =>
    cases hg : s.tree.get a with
    | some o => exact abs_get (Nat.blt_eq.mp hb) hg
    | none => rfl

theorem boot_size : ∀ w : World, ((boot_heap w.params).isNs mainGlobals && (#[] : Array GenState).size == 0, (boot_heap w.params).objs.size, (boot_heap w.params).nsMap mainGlobals "__annotations__") = (true, 11, some (.ref 6)) := fun _ => by kernel_rfl

theorem left_of_tree {p q : Program} {loose : List Str} {Xt : Shared → Bool} {α : Type} {Yf : Shared → α} {Yt : SharedT → α} {Ya : World → α} {N : Nat} (hY : ∀ s, Yf s.abs = Yt s)
    (op : opening p = plainProg p.main.scope.names) (hN : Nat.ble 600 N = true) (fe : ∀ s, fenceModules? p s = some s)
    (h : ∀ w : World, (fun os => check p q loose Xt Yt N w os) = fun _ => some (true, openGood q loose, Ya w)) : LeftO p q loose Xt Yf Ya N true := fun w => by
  obtain ⟨⟨hp, gs, d, k, os⟩, e, e'⟩ := Option.map_eq_some_iff.mp (boot_open op hN fe w)
  obtain ⟨rfl, rfl, rfl, rfl⟩ : hp = boot_heap w.params ∧ gs = #[] ∧ d = boot_drawn ∧ k = boot_toks := by simpa using e'
  have hb : (absHeap (bootTree w.params) 11 {}) = boot_heap w.params := rfl
  obtain ⟨s', l, l'⟩ := Option.map_eq_some_iff.mp (congrFun (h w) os)
  have r := topRunT_of l
  obtain ⟨l1, l2, l3⟩ : _ ∧ _ ∧ _ := by simpa only [looks, Prod.mk.injEq] using l'
  have e2 : (bootT w os).abs = ⟨boot_heap w.params, #[], boot_drawn, boot_toks, os⟩ := by
    show Shared.mk (absHeap (bootTree w.params) 11 {}) _ _ _ _ = _
    rw [hb]
    rfl
  rw [e2] at r
  rw [hb] at l1
  obtain ⟨z1, z2, z3⟩ : _ ∧ _ ∧ _ := by simpa only [Prod.mk.injEq] using boot_size w
  have t : topFrom treeTable p w N ⟨boot_heap w.params, #[], boot_drawn, boot_toks, os⟩ = some s'.abs := by
    unfold topFrom
    dsimp only
    rw [z1, z2, z3, r]
    show (match staticsOk (importedModules p.main.body) (boot_heap w.params) s'.abs.heap && namesBound p s'.abs.heap && gensDone s'.abs && laidKept (boot_heap w.params) s'.abs.heap with | true => _ | false => _) = _
    rw [l1]
  unfold openEnds
  rw [e]
  show (topFrom treeTable p w N _).map _ = _
  rw [t]
  exact congrArg some (Prod.ext l2 ((hY s').trans l3))
end Mine

open PySem PySem.W PyProof.Rows
set_option Elab.async false
namespace Mine
abbrev r : OpenRow := PySem.Challenge.rw_nu0068_01.row
noncomputable def q : Program := view PySem.Challenge.pw_nu0068_01 [34]
noncomputable def loose : List PySem.Str := ["_wall", "SPACES", "is_space", "space_split", "walk_elements", "id_of", "id_table", "references", "broken_references", "referring", "AttributeRule", "MarkupError", "TreeFault", "Dtd", "PARENTS", "NodeRow", "Tree", "_law_pool", "_law_take", "_law_one", "_law_rules", "_law_value", "_law_drawn", "_law_order", "_law_id", "_law_references", "_law_alike_right"]
set_option maxRecDepth 1000000
set_option maxHeartbeats 0
noncomputable def chkL (p q' : Program) (rc : Shared → Bool) (w : World) (os : OsState) := check p q' loose (fun s => xlAt q' [] s && rc s) (fun s => KA.map (getT s)) 6692 w os
noncomputable def chkR (w : World) : List (Option Obj) := (KF w.params).map fun p => some p.2
noncomputable def opG := openGood q loose
theorem lc (w : World) : (fun os => chkL PySem.Challenge.pw_nu0068_01 q (recOk (RowW.records r.toRowW)) w os) = fun _ => some (true, opG, chkR w) := by kernel_rfl
noncomputable abbrev H : Hook := kHook KF KA (fun _ => by kernel_rfl)
theorem left : LeftO PySem.Challenge.pw_nu0068_01 q loose (fun s => xlAt q [] s && recOk (RowW.records r.toRowW) s) (Hook.obs H) (Hook.val H) 6692 :=
  left_of_tree (fun s => List.map_congr_left fun a _ => getT_eq s a) (by rfl) (by rfl) (fun s => by rfl) lc
end Mine

namespace Mine
abbrev prg : Program := PySem.Challenge.rw_nu0068_01.row.prog
end Mine
open PySem PySem.W PyProof.Rows
set_option Elab.async false
set_option linter.all false
set_option compiler.extract_closed false
set_option maxRecDepth 100000
set_option maxHeartbeats 4000000
namespace Mine

-- part p00_elim.lean
theorem E0_2 {P0 P1 : Prop} {G : Prop} (h : P0 ∧ P1) (k : P0 → P1 → G) : G := k h.1 h.2
theorem E0_3 {P0 P1 P2 : Prop} {G : Prop} (h : P0 ∧ P1 ∧ P2) (k : P0 → P1 → P2 → G) : G := k h.1 h.2.1 h.2.2
theorem E0_4 {P0 P1 P2 P3 : Prop} {G : Prop} (h : P0 ∧ P1 ∧ P2 ∧ P3) (k : P0 → P1 → P2 → P3 → G) : G := k h.1 h.2.1 h.2.2.1 h.2.2.2
theorem E0_7 {P0 P1 P2 P3 P4 P5 P6 : Prop} {G : Prop} (h : P0 ∧ P1 ∧ P2 ∧ P3 ∧ P4 ∧ P5 ∧ P6) (k : P0 → P1 → P2 → P3 → P4 → P5 → P6 → G) : G := k h.1 h.2.1 h.2.2.1 h.2.2.2.1 h.2.2.2.2.1 h.2.2.2.2.2.1 h.2.2.2.2.2.2
theorem E0_8 {P0 P1 P2 P3 P4 P5 P6 P7 : Prop} {G : Prop} (h : P0 ∧ P1 ∧ P2 ∧ P3 ∧ P4 ∧ P5 ∧ P6 ∧ P7) (k : P0 → P1 → P2 → P3 → P4 → P5 → P6 → P7 → G) : G := k h.1 h.2.1 h.2.2.1 h.2.2.2.1 h.2.2.2.2.1 h.2.2.2.2.2.1 h.2.2.2.2.2.2.1 h.2.2.2.2.2.2.2
theorem E1_2 {A0 : Type} {P0 P1 : A0 → Prop} {G : Prop} (h : ∃ a0, P0 a0 ∧ P1 a0) (k : ∀ a0, P0 a0 → P1 a0 → G) : G := h.elim fun a0 h => k a0 h.1 h.2
theorem E1_3 {A0 : Type} {P0 P1 P2 : A0 → Prop} {G : Prop} (h : ∃ a0, P0 a0 ∧ P1 a0 ∧ P2 a0) (k : ∀ a0, P0 a0 → P1 a0 → P2 a0 → G) : G := h.elim fun a0 h => k a0 h.1 h.2.1 h.2.2
theorem E1_5 {A0 : Type} {P0 P1 P2 P3 P4 : A0 → Prop} {G : Prop} (h : ∃ a0, P0 a0 ∧ P1 a0 ∧ P2 a0 ∧ P3 a0 ∧ P4 a0) (k : ∀ a0, P0 a0 → P1 a0 → P2 a0 → P3 a0 → P4 a0 → G) : G := h.elim fun a0 h => k a0 h.1 h.2.1 h.2.2.1 h.2.2.2.1 h.2.2.2.2
theorem E1_6 {A0 : Type} {P0 P1 P2 P3 P4 P5 : A0 → Prop} {G : Prop} (h : ∃ a0, P0 a0 ∧ P1 a0 ∧ P2 a0 ∧ P3 a0 ∧ P4 a0 ∧ P5 a0) (k : ∀ a0, P0 a0 → P1 a0 → P2 a0 → P3 a0 → P4 a0 → P5 a0 → G) : G := h.elim fun a0 h => k a0 h.1 h.2.1 h.2.2.1 h.2.2.2.1 h.2.2.2.2.1 h.2.2.2.2.2
theorem E1_7 {A0 : Type} {P0 P1 P2 P3 P4 P5 P6 : A0 → Prop} {G : Prop} (h : ∃ a0, P0 a0 ∧ P1 a0 ∧ P2 a0 ∧ P3 a0 ∧ P4 a0 ∧ P5 a0 ∧ P6 a0) (k : ∀ a0, P0 a0 → P1 a0 → P2 a0 → P3 a0 → P4 a0 → P5 a0 → P6 a0 → G) : G := h.elim fun a0 h => k a0 h.1 h.2.1 h.2.2.1 h.2.2.2.1 h.2.2.2.2.1 h.2.2.2.2.2.1 h.2.2.2.2.2.2
theorem E2_1 {A0 A1 : Type} {P0 : A0 → A1 → Prop} {G : Prop} (h : ∃ a0 a1, P0 a0 a1) (k : ∀ a0 a1, P0 a0 a1 → G) : G := h.elim fun a0 h => h.elim fun a1 h => k a0 a1 h
theorem E2_2 {A0 A1 : Type} {P0 P1 : A0 → A1 → Prop} {G : Prop} (h : ∃ a0 a1, P0 a0 a1 ∧ P1 a0 a1) (k : ∀ a0 a1, P0 a0 a1 → P1 a0 a1 → G) : G := h.elim fun a0 h => h.elim fun a1 h => k a0 a1 h.1 h.2
theorem E2_3 {A0 A1 : Type} {P0 P1 P2 : A0 → A1 → Prop} {G : Prop} (h : ∃ a0 a1, P0 a0 a1 ∧ P1 a0 a1 ∧ P2 a0 a1) (k : ∀ a0 a1, P0 a0 a1 → P1 a0 a1 → P2 a0 a1 → G) : G := h.elim fun a0 h => h.elim fun a1 h => k a0 a1 h.1 h.2.1 h.2.2
theorem E2_4 {A0 A1 : Type} {P0 P1 P2 P3 : A0 → A1 → Prop} {G : Prop} (h : ∃ a0 a1, P0 a0 a1 ∧ P1 a0 a1 ∧ P2 a0 a1 ∧ P3 a0 a1) (k : ∀ a0 a1, P0 a0 a1 → P1 a0 a1 → P2 a0 a1 → P3 a0 a1 → G) : G := h.elim fun a0 h => h.elim fun a1 h => k a0 a1 h.1 h.2.1 h.2.2.1 h.2.2.2
theorem E2_6 {A0 A1 : Type} {P0 P1 P2 P3 P4 P5 : A0 → A1 → Prop} {G : Prop} (h : ∃ a0 a1, P0 a0 a1 ∧ P1 a0 a1 ∧ P2 a0 a1 ∧ P3 a0 a1 ∧ P4 a0 a1 ∧ P5 a0 a1) (k : ∀ a0 a1, P0 a0 a1 → P1 a0 a1 → P2 a0 a1 → P3 a0 a1 → P4 a0 a1 → P5 a0 a1 → G) : G := h.elim fun a0 h => h.elim fun a1 h => k a0 a1 h.1 h.2.1 h.2.2.1 h.2.2.2.1 h.2.2.2.2.1 h.2.2.2.2.2
theorem E2_7 {A0 A1 : Type} {P0 P1 P2 P3 P4 P5 P6 : A0 → A1 → Prop} {G : Prop} (h : ∃ a0 a1, P0 a0 a1 ∧ P1 a0 a1 ∧ P2 a0 a1 ∧ P3 a0 a1 ∧ P4 a0 a1 ∧ P5 a0 a1 ∧ P6 a0 a1) (k : ∀ a0 a1, P0 a0 a1 → P1 a0 a1 → P2 a0 a1 → P3 a0 a1 → P4 a0 a1 → P5 a0 a1 → P6 a0 a1 → G) : G := h.elim fun a0 h => h.elim fun a1 h => k a0 a1 h.1 h.2.1 h.2.2.1 h.2.2.2.1 h.2.2.2.2.1 h.2.2.2.2.2.1 h.2.2.2.2.2.2
theorem E3_3 {A0 A1 A2 : Type} {P0 P1 P2 : A0 → A1 → A2 → Prop} {G : Prop} (h : ∃ a0 a1 a2, P0 a0 a1 a2 ∧ P1 a0 a1 a2 ∧ P2 a0 a1 a2) (k : ∀ a0 a1 a2, P0 a0 a1 a2 → P1 a0 a1 a2 → P2 a0 a1 a2 → G) : G := h.elim fun a0 h => h.elim fun a1 h => h.elim fun a2 h => k a0 a1 a2 h.1 h.2.1 h.2.2
theorem E3_4 {A0 A1 A2 : Type} {P0 P1 P2 P3 : A0 → A1 → A2 → Prop} {G : Prop} (h : ∃ a0 a1 a2, P0 a0 a1 a2 ∧ P1 a0 a1 a2 ∧ P2 a0 a1 a2 ∧ P3 a0 a1 a2) (k : ∀ a0 a1 a2, P0 a0 a1 a2 → P1 a0 a1 a2 → P2 a0 a1 a2 → P3 a0 a1 a2 → G) : G := h.elim fun a0 h => h.elim fun a1 h => h.elim fun a2 h => k a0 a1 a2 h.1 h.2.1 h.2.2.1 h.2.2.2
theorem E3_5 {A0 A1 A2 : Type} {P0 P1 P2 P3 P4 : A0 → A1 → A2 → Prop} {G : Prop} (h : ∃ a0 a1 a2, P0 a0 a1 a2 ∧ P1 a0 a1 a2 ∧ P2 a0 a1 a2 ∧ P3 a0 a1 a2 ∧ P4 a0 a1 a2) (k : ∀ a0 a1 a2, P0 a0 a1 a2 → P1 a0 a1 a2 → P2 a0 a1 a2 → P3 a0 a1 a2 → P4 a0 a1 a2 → G) : G := h.elim fun a0 h => h.elim fun a1 h => h.elim fun a2 h => k a0 a1 a2 h.1 h.2.1 h.2.2.1 h.2.2.2.1 h.2.2.2.2
theorem E3_6 {A0 A1 A2 : Type} {P0 P1 P2 P3 P4 P5 : A0 → A1 → A2 → Prop} {G : Prop} (h : ∃ a0 a1 a2, P0 a0 a1 a2 ∧ P1 a0 a1 a2 ∧ P2 a0 a1 a2 ∧ P3 a0 a1 a2 ∧ P4 a0 a1 a2 ∧ P5 a0 a1 a2) (k : ∀ a0 a1 a2, P0 a0 a1 a2 → P1 a0 a1 a2 → P2 a0 a1 a2 → P3 a0 a1 a2 → P4 a0 a1 a2 → P5 a0 a1 a2 → G) : G := h.elim fun a0 h => h.elim fun a1 h => h.elim fun a2 h => k a0 a1 a2 h.1 h.2.1 h.2.2.1 h.2.2.2.1 h.2.2.2.2.1 h.2.2.2.2.2
theorem E3_7 {A0 A1 A2 : Type} {P0 P1 P2 P3 P4 P5 P6 : A0 → A1 → A2 → Prop} {G : Prop} (h : ∃ a0 a1 a2, P0 a0 a1 a2 ∧ P1 a0 a1 a2 ∧ P2 a0 a1 a2 ∧ P3 a0 a1 a2 ∧ P4 a0 a1 a2 ∧ P5 a0 a1 a2 ∧ P6 a0 a1 a2) (k : ∀ a0 a1 a2, P0 a0 a1 a2 → P1 a0 a1 a2 → P2 a0 a1 a2 → P3 a0 a1 a2 → P4 a0 a1 a2 → P5 a0 a1 a2 → P6 a0 a1 a2 → G) : G := h.elim fun a0 h => h.elim fun a1 h => h.elim fun a2 h => k a0 a1 a2 h.1 h.2.1 h.2.2.1 h.2.2.2.1 h.2.2.2.2.1 h.2.2.2.2.2.1 h.2.2.2.2.2.2
theorem E4_2 {A0 A1 A2 A3 : Type} {P0 P1 : A0 → A1 → A2 → A3 → Prop} {G : Prop} (h : ∃ a0 a1 a2 a3, P0 a0 a1 a2 a3 ∧ P1 a0 a1 a2 a3) (k : ∀ a0 a1 a2 a3, P0 a0 a1 a2 a3 → P1 a0 a1 a2 a3 → G) : G := h.elim fun a0 h => h.elim fun a1 h => h.elim fun a2 h => h.elim fun a3 h => k a0 a1 a2 a3 h.1 h.2
theorem E4_3 {A0 A1 A2 A3 : Type} {P0 P1 P2 : A0 → A1 → A2 → A3 → Prop} {G : Prop} (h : ∃ a0 a1 a2 a3, P0 a0 a1 a2 a3 ∧ P1 a0 a1 a2 a3 ∧ P2 a0 a1 a2 a3) (k : ∀ a0 a1 a2 a3, P0 a0 a1 a2 a3 → P1 a0 a1 a2 a3 → P2 a0 a1 a2 a3 → G) : G := h.elim fun a0 h => h.elim fun a1 h => h.elim fun a2 h => h.elim fun a3 h => k a0 a1 a2 a3 h.1 h.2.1 h.2.2
theorem E4_4 {A0 A1 A2 A3 : Type} {P0 P1 P2 P3 : A0 → A1 → A2 → A3 → Prop} {G : Prop} (h : ∃ a0 a1 a2 a3, P0 a0 a1 a2 a3 ∧ P1 a0 a1 a2 a3 ∧ P2 a0 a1 a2 a3 ∧ P3 a0 a1 a2 a3) (k : ∀ a0 a1 a2 a3, P0 a0 a1 a2 a3 → P1 a0 a1 a2 a3 → P2 a0 a1 a2 a3 → P3 a0 a1 a2 a3 → G) : G := h.elim fun a0 h => h.elim fun a1 h => h.elim fun a2 h => h.elim fun a3 h => k a0 a1 a2 a3 h.1 h.2.1 h.2.2.1 h.2.2.2
theorem E4_5 {A0 A1 A2 A3 : Type} {P0 P1 P2 P3 P4 : A0 → A1 → A2 → A3 → Prop} {G : Prop} (h : ∃ a0 a1 a2 a3, P0 a0 a1 a2 a3 ∧ P1 a0 a1 a2 a3 ∧ P2 a0 a1 a2 a3 ∧ P3 a0 a1 a2 a3 ∧ P4 a0 a1 a2 a3) (k : ∀ a0 a1 a2 a3, P0 a0 a1 a2 a3 → P1 a0 a1 a2 a3 → P2 a0 a1 a2 a3 → P3 a0 a1 a2 a3 → P4 a0 a1 a2 a3 → G) : G := h.elim fun a0 h => h.elim fun a1 h => h.elim fun a2 h => h.elim fun a3 h => k a0 a1 a2 a3 h.1 h.2.1 h.2.2.1 h.2.2.2.1 h.2.2.2.2
theorem E4_6 {A0 A1 A2 A3 : Type} {P0 P1 P2 P3 P4 P5 : A0 → A1 → A2 → A3 → Prop} {G : Prop} (h : ∃ a0 a1 a2 a3, P0 a0 a1 a2 a3 ∧ P1 a0 a1 a2 a3 ∧ P2 a0 a1 a2 a3 ∧ P3 a0 a1 a2 a3 ∧ P4 a0 a1 a2 a3 ∧ P5 a0 a1 a2 a3) (k : ∀ a0 a1 a2 a3, P0 a0 a1 a2 a3 → P1 a0 a1 a2 a3 → P2 a0 a1 a2 a3 → P3 a0 a1 a2 a3 → P4 a0 a1 a2 a3 → P5 a0 a1 a2 a3 → G) : G := h.elim fun a0 h => h.elim fun a1 h => h.elim fun a2 h => h.elim fun a3 h => k a0 a1 a2 a3 h.1 h.2.1 h.2.2.1 h.2.2.2.1 h.2.2.2.2.1 h.2.2.2.2.2
theorem E4_9 {A0 A1 A2 A3 : Type} {P0 P1 P2 P3 P4 P5 P6 P7 P8 : A0 → A1 → A2 → A3 → Prop} {G : Prop} (h : ∃ a0 a1 a2 a3, P0 a0 a1 a2 a3 ∧ P1 a0 a1 a2 a3 ∧ P2 a0 a1 a2 a3 ∧ P3 a0 a1 a2 a3 ∧ P4 a0 a1 a2 a3 ∧ P5 a0 a1 a2 a3 ∧ P6 a0 a1 a2 a3 ∧ P7 a0 a1 a2 a3 ∧ P8 a0 a1 a2 a3) (k : ∀ a0 a1 a2 a3, P0 a0 a1 a2 a3 → P1 a0 a1 a2 a3 → P2 a0 a1 a2 a3 → P3 a0 a1 a2 a3 → P4 a0 a1 a2 a3 → P5 a0 a1 a2 a3 → P6 a0 a1 a2 a3 → P7 a0 a1 a2 a3 → P8 a0 a1 a2 a3 → G) : G := h.elim fun a0 h => h.elim fun a1 h => h.elim fun a2 h => h.elim fun a3 h => k a0 a1 a2 a3 h.1 h.2.1 h.2.2.1 h.2.2.2.1 h.2.2.2.2.1 h.2.2.2.2.2.1 h.2.2.2.2.2.2.1 h.2.2.2.2.2.2.2.1 h.2.2.2.2.2.2.2.2
theorem E5_4 {A0 A1 A2 A3 A4 : Type} {P0 P1 P2 P3 : A0 → A1 → A2 → A3 → A4 → Prop} {G : Prop} (h : ∃ a0 a1 a2 a3 a4, P0 a0 a1 a2 a3 a4 ∧ P1 a0 a1 a2 a3 a4 ∧ P2 a0 a1 a2 a3 a4 ∧ P3 a0 a1 a2 a3 a4) (k : ∀ a0 a1 a2 a3 a4, P0 a0 a1 a2 a3 a4 → P1 a0 a1 a2 a3 a4 → P2 a0 a1 a2 a3 a4 → P3 a0 a1 a2 a3 a4 → G) : G := h.elim fun a0 h => h.elim fun a1 h => h.elim fun a2 h => h.elim fun a3 h => h.elim fun a4 h => k a0 a1 a2 a3 a4 h.1 h.2.1 h.2.2.1 h.2.2.2
theorem E5_5 {A0 A1 A2 A3 A4 : Type} {P0 P1 P2 P3 P4 : A0 → A1 → A2 → A3 → A4 → Prop} {G : Prop} (h : ∃ a0 a1 a2 a3 a4, P0 a0 a1 a2 a3 a4 ∧ P1 a0 a1 a2 a3 a4 ∧ P2 a0 a1 a2 a3 a4 ∧ P3 a0 a1 a2 a3 a4 ∧ P4 a0 a1 a2 a3 a4) (k : ∀ a0 a1 a2 a3 a4, P0 a0 a1 a2 a3 a4 → P1 a0 a1 a2 a3 a4 → P2 a0 a1 a2 a3 a4 → P3 a0 a1 a2 a3 a4 → P4 a0 a1 a2 a3 a4 → G) : G := h.elim fun a0 h => h.elim fun a1 h => h.elim fun a2 h => h.elim fun a3 h => h.elim fun a4 h => k a0 a1 a2 a3 a4 h.1 h.2.1 h.2.2.1 h.2.2.2.1 h.2.2.2.2
theorem E5_6 {A0 A1 A2 A3 A4 : Type} {P0 P1 P2 P3 P4 P5 : A0 → A1 → A2 → A3 → A4 → Prop} {G : Prop} (h : ∃ a0 a1 a2 a3 a4, P0 a0 a1 a2 a3 a4 ∧ P1 a0 a1 a2 a3 a4 ∧ P2 a0 a1 a2 a3 a4 ∧ P3 a0 a1 a2 a3 a4 ∧ P4 a0 a1 a2 a3 a4 ∧ P5 a0 a1 a2 a3 a4) (k : ∀ a0 a1 a2 a3 a4, P0 a0 a1 a2 a3 a4 → P1 a0 a1 a2 a3 a4 → P2 a0 a1 a2 a3 a4 → P3 a0 a1 a2 a3 a4 → P4 a0 a1 a2 a3 a4 → P5 a0 a1 a2 a3 a4 → G) : G := h.elim fun a0 h => h.elim fun a1 h => h.elim fun a2 h => h.elim fun a3 h => h.elim fun a4 h => k a0 a1 a2 a3 a4 h.1 h.2.1 h.2.2.1 h.2.2.2.1 h.2.2.2.2.1 h.2.2.2.2.2
theorem E5_9 {A0 A1 A2 A3 A4 : Type} {P0 P1 P2 P3 P4 P5 P6 P7 P8 : A0 → A1 → A2 → A3 → A4 → Prop} {G : Prop} (h : ∃ a0 a1 a2 a3 a4, P0 a0 a1 a2 a3 a4 ∧ P1 a0 a1 a2 a3 a4 ∧ P2 a0 a1 a2 a3 a4 ∧ P3 a0 a1 a2 a3 a4 ∧ P4 a0 a1 a2 a3 a4 ∧ P5 a0 a1 a2 a3 a4 ∧ P6 a0 a1 a2 a3 a4 ∧ P7 a0 a1 a2 a3 a4 ∧ P8 a0 a1 a2 a3 a4) (k : ∀ a0 a1 a2 a3 a4, P0 a0 a1 a2 a3 a4 → P1 a0 a1 a2 a3 a4 → P2 a0 a1 a2 a3 a4 → P3 a0 a1 a2 a3 a4 → P4 a0 a1 a2 a3 a4 → P5 a0 a1 a2 a3 a4 → P6 a0 a1 a2 a3 a4 → P7 a0 a1 a2 a3 a4 → P8 a0 a1 a2 a3 a4 → G) : G := h.elim fun a0 h => h.elim fun a1 h => h.elim fun a2 h => h.elim fun a3 h => h.elim fun a4 h => k a0 a1 a2 a3 a4 h.1 h.2.1 h.2.2.1 h.2.2.2.1 h.2.2.2.2.1 h.2.2.2.2.2.1 h.2.2.2.2.2.2.1 h.2.2.2.2.2.2.2.1 h.2.2.2.2.2.2.2.2
theorem E6_5 {A0 A1 A2 A3 A4 A5 : Type} {P0 P1 P2 P3 P4 : A0 → A1 → A2 → A3 → A4 → A5 → Prop} {G : Prop} (h : ∃ a0 a1 a2 a3 a4 a5, P0 a0 a1 a2 a3 a4 a5 ∧ P1 a0 a1 a2 a3 a4 a5 ∧ P2 a0 a1 a2 a3 a4 a5 ∧ P3 a0 a1 a2 a3 a4 a5 ∧ P4 a0 a1 a2 a3 a4 a5) (k : ∀ a0 a1 a2 a3 a4 a5, P0 a0 a1 a2 a3 a4 a5 → P1 a0 a1 a2 a3 a4 a5 → P2 a0 a1 a2 a3 a4 a5 → P3 a0 a1 a2 a3 a4 a5 → P4 a0 a1 a2 a3 a4 a5 → G) : G := h.elim fun a0 h => h.elim fun a1 h => h.elim fun a2 h => h.elim fun a3 h => h.elim fun a4 h => h.elim fun a5 h => k a0 a1 a2 a3 a4 a5 h.1 h.2.1 h.2.2.1 h.2.2.2.1 h.2.2.2.2
theorem E6_7 {A0 A1 A2 A3 A4 A5 : Type} {P0 P1 P2 P3 P4 P5 P6 : A0 → A1 → A2 → A3 → A4 → A5 → Prop} {G : Prop} (h : ∃ a0 a1 a2 a3 a4 a5, P0 a0 a1 a2 a3 a4 a5 ∧ P1 a0 a1 a2 a3 a4 a5 ∧ P2 a0 a1 a2 a3 a4 a5 ∧ P3 a0 a1 a2 a3 a4 a5 ∧ P4 a0 a1 a2 a3 a4 a5 ∧ P5 a0 a1 a2 a3 a4 a5 ∧ P6 a0 a1 a2 a3 a4 a5) (k : ∀ a0 a1 a2 a3 a4 a5, P0 a0 a1 a2 a3 a4 a5 → P1 a0 a1 a2 a3 a4 a5 → P2 a0 a1 a2 a3 a4 a5 → P3 a0 a1 a2 a3 a4 a5 → P4 a0 a1 a2 a3 a4 a5 → P5 a0 a1 a2 a3 a4 a5 → P6 a0 a1 a2 a3 a4 a5 → G) : G := h.elim fun a0 h => h.elim fun a1 h => h.elim fun a2 h => h.elim fun a3 h => h.elim fun a4 h => h.elim fun a5 h => k a0 a1 a2 a3 a4 a5 h.1 h.2.1 h.2.2.1 h.2.2.2.1 h.2.2.2.2.1 h.2.2.2.2.2.1 h.2.2.2.2.2.2
theorem E8_7 {A0 A1 A2 A3 A4 A5 A6 A7 : Type} {P0 P1 P2 P3 P4 P5 P6 : A0 → A1 → A2 → A3 → A4 → A5 → A6 → A7 → Prop} {G : Prop} (h : ∃ a0 a1 a2 a3 a4 a5 a6 a7, P0 a0 a1 a2 a3 a4 a5 a6 a7 ∧ P1 a0 a1 a2 a3 a4 a5 a6 a7 ∧ P2 a0 a1 a2 a3 a4 a5 a6 a7 ∧ P3 a0 a1 a2 a3 a4 a5 a6 a7 ∧ P4 a0 a1 a2 a3 a4 a5 a6 a7 ∧ P5 a0 a1 a2 a3 a4 a5 a6 a7 ∧ P6 a0 a1 a2 a3 a4 a5 a6 a7) (k : ∀ a0 a1 a2 a3 a4 a5 a6 a7, P0 a0 a1 a2 a3 a4 a5 a6 a7 → P1 a0 a1 a2 a3 a4 a5 a6 a7 → P2 a0 a1 a2 a3 a4 a5 a6 a7 → P3 a0 a1 a2 a3 a4 a5 a6 a7 → P4 a0 a1 a2 a3 a4 a5 a6 a7 → P5 a0 a1 a2 a3 a4 a5 a6 a7 → P6 a0 a1 a2 a3 a4 a5 a6 a7 → G) : G := h.elim fun a0 h => h.elim fun a1 h => h.elim fun a2 h => h.elim fun a3 h => h.elim fun a4 h => h.elim fun a5 h => h.elim fun a6 h => h.elim fun a7 h => k a0 a1 a2 a3 a4 a5 a6 a7 h.1 h.2.1 h.2.2.1 h.2.2.2.1 h.2.2.2.2.1 h.2.2.2.2.2.1 h.2.2.2.2.2.2
theorem E8_8 {A0 A1 A2 A3 A4 A5 A6 A7 : Type} {P0 P1 P2 P3 P4 P5 P6 P7 : A0 → A1 → A2 → A3 → A4 → A5 → A6 → A7 → Prop} {G : Prop} (h : ∃ a0 a1 a2 a3 a4 a5 a6 a7, P0 a0 a1 a2 a3 a4 a5 a6 a7 ∧ P1 a0 a1 a2 a3 a4 a5 a6 a7 ∧ P2 a0 a1 a2 a3 a4 a5 a6 a7 ∧ P3 a0 a1 a2 a3 a4 a5 a6 a7 ∧ P4 a0 a1 a2 a3 a4 a5 a6 a7 ∧ P5 a0 a1 a2 a3 a4 a5 a6 a7 ∧ P6 a0 a1 a2 a3 a4 a5 a6 a7 ∧ P7 a0 a1 a2 a3 a4 a5 a6 a7) (k : ∀ a0 a1 a2 a3 a4 a5 a6 a7, P0 a0 a1 a2 a3 a4 a5 a6 a7 → P1 a0 a1 a2 a3 a4 a5 a6 a7 → P2 a0 a1 a2 a3 a4 a5 a6 a7 → P3 a0 a1 a2 a3 a4 a5 a6 a7 → P4 a0 a1 a2 a3 a4 a5 a6 a7 → P5 a0 a1 a2 a3 a4 a5 a6 a7 → P6 a0 a1 a2 a3 a4 a5 a6 a7 → P7 a0 a1 a2 a3 a4 a5 a6 a7 → G) : G := h.elim fun a0 h => h.elim fun a1 h => h.elim fun a2 h => h.elim fun a3 h => h.elim fun a4 h => h.elim fun a5 h => h.elim fun a6 h => h.elim fun a7 h => k a0 a1 a2 a3 a4 a5 a6 a7 h.1 h.2.1 h.2.2.1 h.2.2.2.1 h.2.2.2.2.1 h.2.2.2.2.2.1 h.2.2.2.2.2.2.1 h.2.2.2.2.2.2.2
theorem E10_3 {A0 A1 A2 A3 A4 A5 A6 A7 A8 A9 : Type} {P0 P1 P2 : A0 → A1 → A2 → A3 → A4 → A5 → A6 → A7 → A8 → A9 → Prop} {G : Prop} (h : ∃ a0 a1 a2 a3 a4 a5 a6 a7 a8 a9, P0 a0 a1 a2 a3 a4 a5 a6 a7 a8 a9 ∧ P1 a0 a1 a2 a3 a4 a5 a6 a7 a8 a9 ∧ P2 a0 a1 a2 a3 a4 a5 a6 a7 a8 a9) (k : ∀ a0 a1 a2 a3 a4 a5 a6 a7 a8 a9, P0 a0 a1 a2 a3 a4 a5 a6 a7 a8 a9 → P1 a0 a1 a2 a3 a4 a5 a6 a7 a8 a9 → P2 a0 a1 a2 a3 a4 a5 a6 a7 a8 a9 → G) : G := h.elim fun a0 h => h.elim fun a1 h => h.elim fun a2 h => h.elim fun a3 h => h.elim fun a4 h => h.elim fun a5 h => h.elim fun a6 h => h.elim fun a7 h => h.elim fun a8 h => h.elim fun a9 h => k a0 a1 a2 a3 a4 a5 a6 a7 a8 a9 h.1 h.2.1 h.2.2
theorem E11_2 {A0 A1 A2 A3 A4 A5 A6 A7 A8 A9 A10 : Type} {P0 P1 : A0 → A1 → A2 → A3 → A4 → A5 → A6 → A7 → A8 → A9 → A10 → Prop} {G : Prop} (h : ∃ a0 a1 a2 a3 a4 a5 a6 a7 a8 a9 a10, P0 a0 a1 a2 a3 a4 a5 a6 a7 a8 a9 a10 ∧ P1 a0 a1 a2 a3 a4 a5 a6 a7 a8 a9 a10) (k : ∀ a0 a1 a2 a3 a4 a5 a6 a7 a8 a9 a10, P0 a0 a1 a2 a3 a4 a5 a6 a7 a8 a9 a10 → P1 a0 a1 a2 a3 a4 a5 a6 a7 a8 a9 a10 → G) : G := h.elim fun a0 h => h.elim fun a1 h => h.elim fun a2 h => h.elim fun a3 h => h.elim fun a4 h => h.elim fun a5 h => h.elim fun a6 h => h.elim fun a7 h => h.elim fun a8 h => h.elim fun a9 h => h.elim fun a10 h => k a0 a1 a2 a3 a4 a5 a6 a7 a8 a9 a10 h.1 h.2
theorem E11_3 {A0 A1 A2 A3 A4 A5 A6 A7 A8 A9 A10 : Type} {P0 P1 P2 : A0 → A1 → A2 → A3 → A4 → A5 → A6 → A7 → A8 → A9 → A10 → Prop} {G : Prop} (h : ∃ a0 a1 a2 a3 a4 a5 a6 a7 a8 a9 a10, P0 a0 a1 a2 a3 a4 a5 a6 a7 a8 a9 a10 ∧ P1 a0 a1 a2 a3 a4 a5 a6 a7 a8 a9 a10 ∧ P2 a0 a1 a2 a3 a4 a5 a6 a7 a8 a9 a10) (k : ∀ a0 a1 a2 a3 a4 a5 a6 a7 a8 a9 a10, P0 a0 a1 a2 a3 a4 a5 a6 a7 a8 a9 a10 → P1 a0 a1 a2 a3 a4 a5 a6 a7 a8 a9 a10 → P2 a0 a1 a2 a3 a4 a5 a6 a7 a8 a9 a10 → G) : G := h.elim fun a0 h => h.elim fun a1 h => h.elim fun a2 h => h.elim fun a3 h => h.elim fun a4 h => h.elim fun a5 h => h.elim fun a6 h => h.elim fun a7 h => h.elim fun a8 h => h.elim fun a9 h => h.elim fun a10 h => k a0 a1 a2 a3 a4 a5 a6 a7 a8 a9 a10 h.1 h.2.1 h.2.2
theorem E11_4 {A0 A1 A2 A3 A4 A5 A6 A7 A8 A9 A10 : Type} {P0 P1 P2 P3 : A0 → A1 → A2 → A3 → A4 → A5 → A6 → A7 → A8 → A9 → A10 → Prop} {G : Prop} (h : ∃ a0 a1 a2 a3 a4 a5 a6 a7 a8 a9 a10, P0 a0 a1 a2 a3 a4 a5 a6 a7 a8 a9 a10 ∧ P1 a0 a1 a2 a3 a4 a5 a6 a7 a8 a9 a10 ∧ P2 a0 a1 a2 a3 a4 a5 a6 a7 a8 a9 a10 ∧ P3 a0 a1 a2 a3 a4 a5 a6 a7 a8 a9 a10) (k : ∀ a0 a1 a2 a3 a4 a5 a6 a7 a8 a9 a10, P0 a0 a1 a2 a3 a4 a5 a6 a7 a8 a9 a10 → P1 a0 a1 a2 a3 a4 a5 a6 a7 a8 a9 a10 → P2 a0 a1 a2 a3 a4 a5 a6 a7 a8 a9 a10 → P3 a0 a1 a2 a3 a4 a5 a6 a7 a8 a9 a10 → G) : G := h.elim fun a0 h => h.elim fun a1 h => h.elim fun a2 h => h.elim fun a3 h => h.elim fun a4 h => h.elim fun a5 h => h.elim fun a6 h => h.elim fun a7 h => h.elim fun a8 h => h.elim fun a9 h => h.elim fun a10 h => k a0 a1 a2 a3 a4 a5 a6 a7 a8 a9 a10 h.1 h.2.1 h.2.2.1 h.2.2.2
theorem E11_6 {A0 A1 A2 A3 A4 A5 A6 A7 A8 A9 A10 : Type} {P0 P1 P2 P3 P4 P5 : A0 → A1 → A2 → A3 → A4 → A5 → A6 → A7 → A8 → A9 → A10 → Prop} {G : Prop} (h : ∃ a0 a1 a2 a3 a4 a5 a6 a7 a8 a9 a10, P0 a0 a1 a2 a3 a4 a5 a6 a7 a8 a9 a10 ∧ P1 a0 a1 a2 a3 a4 a5 a6 a7 a8 a9 a10 ∧ P2 a0 a1 a2 a3 a4 a5 a6 a7 a8 a9 a10 ∧ P3 a0 a1 a2 a3 a4 a5 a6 a7 a8 a9 a10 ∧ P4 a0 a1 a2 a3 a4 a5 a6 a7 a8 a9 a10 ∧ P5 a0 a1 a2 a3 a4 a5 a6 a7 a8 a9 a10) (k : ∀ a0 a1 a2 a3 a4 a5 a6 a7 a8 a9 a10, P0 a0 a1 a2 a3 a4 a5 a6 a7 a8 a9 a10 → P1 a0 a1 a2 a3 a4 a5 a6 a7 a8 a9 a10 → P2 a0 a1 a2 a3 a4 a5 a6 a7 a8 a9 a10 → P3 a0 a1 a2 a3 a4 a5 a6 a7 a8 a9 a10 → P4 a0 a1 a2 a3 a4 a5 a6 a7 a8 a9 a10 → P5 a0 a1 a2 a3 a4 a5 a6 a7 a8 a9 a10 → G) : G := h.elim fun a0 h => h.elim fun a1 h => h.elim fun a2 h => h.elim fun a3 h => h.elim fun a4 h => h.elim fun a5 h => h.elim fun a6 h => h.elim fun a7 h => h.elim fun a8 h => h.elim fun a9 h => h.elim fun a10 h => k a0 a1 a2 a3 a4 a5 a6 a7 a8 a9 a10 h.1 h.2.1 h.2.2.1 h.2.2.2.1 h.2.2.2.2.1 h.2.2.2.2.2
theorem E11_10 {A0 A1 A2 A3 A4 A5 A6 A7 A8 A9 A10 : Type} {P0 P1 P2 P3 P4 P5 P6 P7 P8 P9 : A0 → A1 → A2 → A3 → A4 → A5 → A6 → A7 → A8 → A9 → A10 → Prop} {G : Prop} (h : ∃ a0 a1 a2 a3 a4 a5 a6 a7 a8 a9 a10, P0 a0 a1 a2 a3 a4 a5 a6 a7 a8 a9 a10 ∧ P1 a0 a1 a2 a3 a4 a5 a6 a7 a8 a9 a10 ∧ P2 a0 a1 a2 a3 a4 a5 a6 a7 a8 a9 a10 ∧ P3 a0 a1 a2 a3 a4 a5 a6 a7 a8 a9 a10 ∧ P4 a0 a1 a2 a3 a4 a5 a6 a7 a8 a9 a10 ∧ P5 a0 a1 a2 a3 a4 a5 a6 a7 a8 a9 a10 ∧ P6 a0 a1 a2 a3 a4 a5 a6 a7 a8 a9 a10 ∧ P7 a0 a1 a2 a3 a4 a5 a6 a7 a8 a9 a10 ∧ P8 a0 a1 a2 a3 a4 a5 a6 a7 a8 a9 a10 ∧ P9 a0 a1 a2 a3 a4 a5 a6 a7 a8 a9 a10) (k : ∀ a0 a1 a2 a3 a4 a5 a6 a7 a8 a9 a10, P0 a0 a1 a2 a3 a4 a5 a6 a7 a8 a9 a10 → P1 a0 a1 a2 a3 a4 a5 a6 a7 a8 a9 a10 → P2 a0 a1 a2 a3 a4 a5 a6 a7 a8 a9 a10 → P3 a0 a1 a2 a3 a4 a5 a6 a7 a8 a9 a10 → P4 a0 a1 a2 a3 a4 a5 a6 a7 a8 a9 a10 → P5 a0 a1 a2 a3 a4 a5 a6 a7 a8 a9 a10 → P6 a0 a1 a2 a3 a4 a5 a6 a7 a8 a9 a10 → P7 a0 a1 a2 a3 a4 a5 a6 a7 a8 a9 a10 → P8 a0 a1 a2 a3 a4 a5 a6 a7 a8 a9 a10 → P9 a0 a1 a2 a3 a4 a5 a6 a7 a8 a9 a10 → G) : G := h.elim fun a0 h => h.elim fun a1 h => h.elim fun a2 h => h.elim fun a3 h => h.elim fun a4 h => h.elim fun a5 h => h.elim fun a6 h => h.elim fun a7 h => h.elim fun a8 h => h.elim fun a9 h => h.elim fun a10 h => k a0 a1 a2 a3 a4 a5 a6 a7 a8 a9 a10 h.1 h.2.1 h.2.2.1 h.2.2.2.1 h.2.2.2.2.1 h.2.2.2.2.2.1 h.2.2.2.2.2.2.1 h.2.2.2.2.2.2.2.1 h.2.2.2.2.2.2.2.2.1 h.2.2.2.2.2.2.2.2.2
theorem E17_3 {A0 A1 A2 A3 A4 A5 A6 A7 A8 A9 A10 A11 A12 A13 A14 A15 A16 : Type} {P0 P1 P2 : A0 → A1 → A2 → A3 → A4 → A5 → A6 → A7 → A8 → A9 → A10 → A11 → A12 → A13 → A14 → A15 → A16 → Prop} {G : Prop} (h : ∃ a0 a1 a2 a3 a4 a5 a6 a7 a8 a9 a10 a11 a12 a13 a14 a15 a16, P0 a0 a1 a2 a3 a4 a5 a6 a7 a8 a9 a10 a11 a12 a13 a14 a15 a16 ∧ P1 a0 a1 a2 a3 a4 a5 a6 a7 a8 a9 a10 a11 a12 a13 a14 a15 a16 ∧ P2 a0 a1 a2 a3 a4 a5 a6 a7 a8 a9 a10 a11 a12 a13 a14 a15 a16) (k : ∀ a0 a1 a2 a3 a4 a5 a6 a7 a8 a9 a10 a11 a12 a13 a14 a15 a16, P0 a0 a1 a2 a3 a4 a5 a6 a7 a8 a9 a10 a11 a12 a13 a14 a15 a16 → P1 a0 a1 a2 a3 a4 a5 a6 a7 a8 a9 a10 a11 a12 a13 a14 a15 a16 → P2 a0 a1 a2 a3 a4 a5 a6 a7 a8 a9 a10 a11 a12 a13 a14 a15 a16 → G) : G := h.elim fun a0 h => h.elim fun a1 h => h.elim fun a2 h => h.elim fun a3 h => h.elim fun a4 h => h.elim fun a5 h => h.elim fun a6 h => h.elim fun a7 h => h.elim fun a8 h => h.elim fun a9 h => h.elim fun a10 h => h.elim fun a11 h => h.elim fun a12 h => h.elim fun a13 h => h.elim fun a14 h => h.elim fun a15 h => h.elim fun a16 h => k a0 a1 a2 a3 a4 a5 a6 a7 a8 a9 a10 a11 a12 a13 a14 a15 a16 h.1 h.2.1 h.2.2
theorem E18_6 {A0 A1 A2 A3 A4 A5 A6 A7 A8 A9 A10 A11 A12 A13 A14 A15 A16 A17 : Type} {P0 P1 P2 P3 P4 P5 : A0 → A1 → A2 → A3 → A4 → A5 → A6 → A7 → A8 → A9 → A10 → A11 → A12 → A13 → A14 → A15 → A16 → A17 → Prop} {G : Prop} (h : ∃ a0 a1 a2 a3 a4 a5 a6 a7 a8 a9 a10 a11 a12 a13 a14 a15 a16 a17, P0 a0 a1 a2 a3 a4 a5 a6 a7 a8 a9 a10 a11 a12 a13 a14 a15 a16 a17 ∧ P1 a0 a1 a2 a3 a4 a5 a6 a7 a8 a9 a10 a11 a12 a13 a14 a15 a16 a17 ∧ P2 a0 a1 a2 a3 a4 a5 a6 a7 a8 a9 a10 a11 a12 a13 a14 a15 a16 a17 ∧ P3 a0 a1 a2 a3 a4 a5 a6 a7 a8 a9 a10 a11 a12 a13 a14 a15 a16 a17 ∧ P4 a0 a1 a2 a3 a4 a5 a6 a7 a8 a9 a10 a11 a12 a13 a14 a15 a16 a17 ∧ P5 a0 a1 a2 a3 a4 a5 a6 a7 a8 a9 a10 a11 a12 a13 a14 a15 a16 a17) (k : ∀ a0 a1 a2 a3 a4 a5 a6 a7 a8 a9 a10 a11 a12 a13 a14 a15 a16 a17, P0 a0 a1 a2 a3 a4 a5 a6 a7 a8 a9 a10 a11 a12 a13 a14 a15 a16 a17 → P1 a0 a1 a2 a3 a4 a5 a6 a7 a8 a9 a10 a11 a12 a13 a14 a15 a16 a17 → P2 a0 a1 a2 a3 a4 a5 a6 a7 a8 a9 a10 a11 a12 a13 a14 a15 a16 a17 → P3 a0 a1 a2 a3 a4 a5 a6 a7 a8 a9 a10 a11 a12 a13 a14 a15 a16 a17 → P4 a0 a1 a2 a3 a4 a5 a6 a7 a8 a9 a10 a11 a12 a13 a14 a15 a16 a17 → P5 a0 a1 a2 a3 a4 a5 a6 a7 a8 a9 a10 a11 a12 a13 a14 a15 a16 a17 → G) : G := h.elim fun a0 h => h.elim fun a1 h => h.elim fun a2 h => h.elim fun a3 h => h.elim fun a4 h => h.elim fun a5 h => h.elim fun a6 h => h.elim fun a7 h => h.elim fun a8 h => h.elim fun a9 h => h.elim fun a10 h => h.elim fun a11 h => h.elim fun a12 h => h.elim fun a13 h => h.elim fun a14 h => h.elim fun a15 h => h.elim fun a16 h => h.elim fun a17 h => k a0 a1 a2 a3 a4 a5 a6 a7 a8 a9 a10 a11 a12 a13 a14 a15 a16 a17 h.1 h.2.1 h.2.2.1 h.2.2.2.1 h.2.2.2.2.1 h.2.2.2.2.2
theorem E20_3 {A0 A1 A2 A3 A4 A5 A6 A7 A8 A9 A10 A11 A12 A13 A14 A15 A16 A17 A18 A19 : Type} {P0 P1 P2 : A0 → A1 → A2 → A3 → A4 → A5 → A6 → A7 → A8 → A9 → A10 → A11 → A12 → A13 → A14 → A15 → A16 → A17 → A18 → A19 → Prop} {G : Prop} (h : ∃ a0 a1 a2 a3 a4 a5 a6 a7 a8 a9 a10 a11 a12 a13 a14 a15 a16 a17 a18 a19, P0 a0 a1 a2 a3 a4 a5 a6 a7 a8 a9 a10 a11 a12 a13 a14 a15 a16 a17 a18 a19 ∧ P1 a0 a1 a2 a3 a4 a5 a6 a7 a8 a9 a10 a11 a12 a13 a14 a15 a16 a17 a18 a19 ∧ P2 a0 a1 a2 a3 a4 a5 a6 a7 a8 a9 a10 a11 a12 a13 a14 a15 a16 a17 a18 a19) (k : ∀ a0 a1 a2 a3 a4 a5 a6 a7 a8 a9 a10 a11 a12 a13 a14 a15 a16 a17 a18 a19, P0 a0 a1 a2 a3 a4 a5 a6 a7 a8 a9 a10 a11 a12 a13 a14 a15 a16 a17 a18 a19 → P1 a0 a1 a2 a3 a4 a5 a6 a7 a8 a9 a10 a11 a12 a13 a14 a15 a16 a17 a18 a19 → P2 a0 a1 a2 a3 a4 a5 a6 a7 a8 a9 a10 a11 a12 a13 a14 a15 a16 a17 a18 a19 → G) : G := h.elim fun a0 h => h.elim fun a1 h => h.elim fun a2 h => h.elim fun a3 h => h.elim fun a4 h => h.elim fun a5 h => h.elim fun a6 h => h.elim fun a7 h => h.elim fun a8 h => h.elim fun a9 h => h.elim fun a10 h => h.elim fun a11 h => h.elim fun a12 h => h.elim fun a13 h => h.elim fun a14 h => h.elim fun a15 h => h.elim fun a16 h => h.elim fun a17 h => h.elim fun a18 h => h.elim fun a19 h => k a0 a1 a2 a3 a4 a5 a6 a7 a8 a9 a10 a11 a12 a13 a14 a15 a16 a17 a18 a19 h.1 h.2.1 h.2.2

-- part p01_base.lean
abbrev lst (vs : List Value) (n : Nat) : Obj := { cls := .type "list", data := .seq vs.toArray n }
abbrev ent (P : Params) (x : String) (t : Tok) (v : Value) : DictEntry := ⟨PyData.keyHash P (Str.ofString x), .str (Str.ofString x) t, v⟩
abbrev aT (dp un : Nat) (gd : Option (List Code)) (env : Env) (outer : List Env) : Around := { handled := none, depth := dp, frames := some (env :: outer), guards := gd, units := un }
structure Cx (w : World) (outer : List Env) (h₀ : Heap) (L : Addr) (env : Env) (m : Str → Option Value) (h : Heap) (news : List (Addr × Obj)) : Prop where
  ex : ∃ A₀ base mean mg mb, Below A₀ base outer h₀ ∧ Top q (looseW q loose) mean mg mb h₀
  F : Fr h₀ L h m
  N : News h₀ L h news
  X : (KF w.params).In h₀
  hf : env.frame = some L
  hk : env.scope.kind = .function
theorem Cx.mk' {w : World} {outer : List Env} {h₀ h base : Heap} {A₀ : Around} {L : Addr} {env : Env} {m mg mb : Str → Option Value} {mean : ExcName → Option Value} {news : List (Addr × Obj)}
    (B : Below A₀ base outer h₀) (T : Top q (looseW q loose) mean mg mb h₀) (F : Fr h₀ L h m) (N : News h₀ L h news) (X : (KF w.params).In h₀) (hf : env.frame = some L) (hk : env.scope.kind = .function) : Cx w outer h₀ L env m h news :=
  ⟨⟨_, _, _, _, _, B, T⟩, F, N, X, hf, hk⟩
theorem Cx.elim {w : World} {outer : List Env} {h₀ : Heap} {L : Addr} {env : Env} {m : Str → Option Value} {h : Heap} {news : List (Addr × Obj)} {G : Prop} (C : Cx w outer h₀ L env m h news)
    (k : ∀ A₀ base mean mg mb, Below A₀ base outer h₀ → Top q (looseW q loose) mean mg mb h₀ → Fr h₀ L h m → News h₀ L h news → (KF w.params).In h₀ → env.frame = some L → env.scope.kind = .function → G) : G :=
  C.ex.elim fun A₀ h => h.elim fun base h => h.elim fun mean h => h.elim fun mg h => h.elim fun mb h => k A₀ base mean mg mb h.1 h.2 C.F C.N C.X C.hf C.hk
theorem isList_mem {h₀ h : Heap} {L l : Addr} {news : List (Addr × Obj)} {vs : List Value} {n : Nat} (N : News h₀ L h news) (hm : (l, lst vs n) ∈ news) : h.IsList l vs.toArray := ⟨_, (N _ hm).1, rfl, _, rfl⟩
section
variable {w : World} {A : Around} {E : Value → Shared → Prop} {s : Shared} {h₀ : Heap} {L : Addr} {m : Str → Option Value} {news : List (Addr × Obj)} {l : Addr} {vs : List Value} {n : Nat}
theorem len_mem {Q : Value → Shared → Prop} (N : News h₀ L s.heap news) (hm : (l, lst vs n) ∈ news) (hz : vs.length ≤ 1000000)
    (h : ∀ t tk', Q (.int vs.length t) { s with toks := tk' }) : wpAny (model prg w) A (call (.builtin "len") [.ref l]) Q E s :=
  len_list (isList_mem N hm) (by simp only [List.size_toArray]; omega) (by simpa using h _ _)
theorem item_mem {value slice : PySem.Expr} {k : Int} {u : Tok} {v : Value} {Q : Value → Shared → Prop} (N : News h₀ L s.heap news) (hm : (l, lst vs n) ∈ news) (h0 : 0 ≤ k) (hhi : k < 2 ^ 63) (hx : vs[k.toNat]? = some v) (h : Q v s)
    (hs : subscripted slice false (.ref l) (.int k u) = operate [.ref l, .int k u] (getItem (.ref l) (.int k u)) := by with_unfolding_all rfl) :
    wpAny (model prg w) A (subscriptTail value slice (.ref l) (.int k u)) Q E s :=
  item_litK (isList_mem N hm) h0 hhi hx h hs
end
section
variable {prog : Program} {w : World} {A : Around} {E : Value → Shared → Prop} {s : Shared} {env : Env} {h₀ : Heap} {x : Str} {body : List Stmt} {Q : Flow → Shared → Prop}
def Later (P : Prop) : Prop := P
theorem stopAt {P : Prop} (h : Later P) : P := h
theorem goOn {P : Prop} (h : P) : Later P := h
abbrev Jt := Nat → (Str → Option Value) → List (Addr × Obj) → Prop
def JPost (h₀ : Heap) (L : Addr) (s₁ : Shared) (I : Addr) (it : Obj) (J : (Str → Option Value) → List (Addr × Obj) → Prop) (Q : Flow → Shared → Prop) (f : Flow) (s₂ : Shared) : Prop := UnrPost h₀ L s₁ I it J Q f s₂
theorem JPost.fin {L I : Addr} {it : Obj} {J : (Str → Option Value) → List (Addr × Obj) → Prop} {s₁ : Shared} {h' : Heap} {tk : Nat} {m' : Str → Option Value} {all : List (Addr × Obj)} (news' : List (Addr × Obj)) (F : Fr h₀ L h' m') (N : News h₀ L h' all)
    (sub : ∀ p ∈ (I, it) :: news', p ∈ all) (off : ∀ p ∈ news', p.1 ≠ I) (r : J m' news') : JPost h₀ L s₁ I it J Q .next { s₁ with heap := h', toks := tk } := UnrEnd.intro F N news' sub off r
theorem JPost.finc {L I : Addr} {it : Obj} {J : (Str → Option Value) → List (Addr × Obj) → Prop} {s₁ : Shared} {h' : Heap} {tk : Nat} {m' : Str → Option Value} {all : List (Addr × Obj)} (news' : List (Addr × Obj)) (F : Fr h₀ L h' m') (N : News h₀ L h' all)
    (sub : ∀ p ∈ (I, it) :: news', p ∈ all) (off : ∀ p ∈ news', p.1 ≠ I) (r : J m' news') : JPost h₀ L s₁ I it J Q .cont { s₁ with heap := h', toks := tk } := UnrEnd.intro F N news' sub off r
theorem JPost.ret {L I : Addr} {it : Obj} {J : (Str → Option Value) → List (Addr × Obj) → Prop} {s₁ s₂ : Shared} {v : Value} (h : Q (.ret v) s₂) : JPost h₀ L s₁ I it J Q (.ret v) s₂ := h
theorem UnrPost.mono {L I : Addr} {it : Obj} {J J' : (Str → Option Value) → List (Addr × Obj) → Prop} {s₁ : Shared} (hJ : ∀ m n, (∀ p ∈ n, p.1 ≠ I) → J m n → J' m n) {f : Flow} {s₂ : Shared} (h : UnrPost h₀ L s₁ I it J Q f s₂) : UnrPost h₀ L s₁ I it J' Q f s₂ := by
  cases f with
  | ret v => exact h
  | brk => exact h
  | next => refine E4_5 (h) ?_; (try clear h); intro h' tk m' n' e F N o r; exact ⟨h', tk, m', n', e, F, N, o, hJ _ _ o r⟩
  | cont => refine E4_5 (h) ?_; (try clear h); intro h' tk m' n' e F N o r; exact ⟨h', tk, m', n', e, F, N, o, hJ _ _ o r⟩
theorem listRest_J {I : Addr} {lp : Addr × Obj} {vs : List Value} (J : Jt)
    (turn : ∀ i v m₁ news₁ it h tk, vs[i]? = some v → (∀ p ∈ news₁, p.1 ≠ I) → lp ∈ news₁ → J i m₁ news₁ → it.cls = .type "list_iterator" → Fr h₀ env.locals h (fun y => if y = x then some v else m₁ y) → News h₀ env.locals h ((I, it) :: news₁) →
      wpAny (model prog w) A (execs body env) (JPost h₀ env.locals { s with heap := h, toks := tk } I it (fun m' n' => lp ∈ n' ∧ J (i + 1) m' n') Q) E { s with heap := h, toks := tk })
    (done : ∀ m₁ news₁ h tk, lp ∈ news₁ → J vs.length m₁ news₁ → Fr h₀ env.locals h m₁ → News h₀ env.locals h news₁ → Q .next { s with heap := h, toks := tk }) :
    ∀ (k i : Nat) (m : Str → Option Value) (news : List (Addr × Obj)), i + k = vs.length → (∀ p ∈ news, p.1 ≠ I) → lp ∈ news → J i m news → ListRest prog w A E h₀ env x body Q s I lp (vs.drop i) m news
  | 0, i, m, news, e, off, hl, hj => by
    have : i = vs.length := by omega
    subst this
    rw [List.drop_length]
    exact fun h tk F N => done m news h tk hl hj F N
  | k + 1, i, m, news, e, off, hl, hj => by
    have hlt : i < vs.length := by omega
    rw [List.drop_eq_getElem_cons hlt]
    intro it h tk hc F N
    refine wpAny_mono (turn i _ m news it h tk (List.getElem?_eq_getElem hlt) off hl hj hc F N) (fun f s₂ p => ?_) fun _ _ e => e
    exact UnrPost.mono (fun m' n' o r => ⟨r.1, listRest_J J turn done k (i + 1) m' n' (by omega) o r.1 r.2⟩) p
theorem for_list_J {l : Addr} {vs : List Value} {n : Nat} {m₀ : Str → Option Value} {news : List (Addr × Obj)} (J : Jt)
    (hh : A.handled = none) (F : Fr h₀ env.locals s.heap m₀) (N : News h₀ env.locals s.heap news) (hm : (l, lst vs n) ∈ news) (h0 : J 0 m₀ news)
    (turn : Later (∀ I i v m₁ news₁ it h tk, vs[i]? = some v → (∀ p ∈ news, p.1 < I) → (∀ p ∈ news₁, p.1 ≠ I) → (l, lst vs n) ∈ news₁ → J i m₁ news₁ → it.cls = .type "list_iterator" → Fr h₀ env.locals h (fun y => if y = x then some v else m₁ y) → News h₀ env.locals h ((I, it) :: news₁) →
      wpAny (model prog w) A (execs body env) (JPost h₀ env.locals { s with heap := h, toks := tk } I it (fun m' n' => (l, lst vs n) ∈ n' ∧ J (i + 1) m' n') Q) E { s with heap := h, toks := tk }))
    (done : Later (∀ m₁ news₁ h tk, (l, lst vs n) ∈ news₁ → J vs.length m₁ news₁ → Fr h₀ env.locals h m₁ → News h₀ env.locals h news₁ → Q .next { s with heap := h, toks := tk })) :
    wpAny (model prog w) A (pyIter (.ref l)) (fun it s₂ => LoopAtV prog w A h₀ env x body Q E it s₂) E s :=
  iter_listUnr hh F N hm rfl rfl fun I hI => by
    have := listRest_J (prog := prog) (w := w) (A := A) (E := E) (s := s) (env := env) (h₀ := h₀) (x := x) (body := body) (Q := Q) (I := I) (lp := (l, lst vs n)) (vs := vs) J (fun i v m₁ news₁ it h tk e o a b c d e' => turn I i v m₁ news₁ it h tk e hI o a b c d e') done vs.length 0 m₀ news (by omega) (fun p hp => Nat.ne_of_lt (hI p hp)) hm h0
    simpa using this
theorem rangeRest_J {I : Addr} {n : Nat} (J : Jt)
    (turn : ∀ i t m₁ news₁ it h tk, i < n → (∀ p ∈ news₁, p.1 ≠ I) → J i m₁ news₁ → Fr h₀ env.locals h (fun y => if y = x then some (.int (i : Int) t) else m₁ y) → News h₀ env.locals h ((I, it) :: news₁) →
      wpAny (model prog w) A (execs body env) (JPost h₀ env.locals { s with heap := h, toks := tk } I it (J (i + 1)) Q) E { s with heap := h, toks := tk })
    (done : ∀ m₁ news₁ h tk, J n m₁ news₁ → Fr h₀ env.locals h m₁ → News h₀ env.locals h news₁ → Q .next { s with heap := h, toks := tk }) :
    ∀ (k i : Nat) (m : Str → Option Value) (news : List (Addr × Obj)), i + k = n → (∀ p ∈ news, p.1 ≠ I) → J i m news → RangeRest prog w A E h₀ env x body Q s I 0 n k i m news
  | 0, i, m, news, e, off, hj => by
    have : i = n := by omega
    subst this
    exact fun h tk F N => done m news h tk hj F N
  | k + 1, i, m, news, e, off, hj => by
    intro t h tk F N
    have e0 : (0 : Int) + (i : Int) = (i : Int) := by omega
    rw [e0] at F
    refine wpAny_mono (turn i t m news _ h tk (by omega) off hj F N) (fun f s₂ p => ?_) fun _ _ e => e
    exact UnrPost.mono (fun m' n' o r => rangeRest_J J turn done k (i + 1) m' n' (by omega) o r) p
theorem for_range_J {r : Addr} {b₀ : Int} {t₀ u₀ v₀ : Tok} {n : Nat} {m₀ : Str → Option Value} {news : List (Addr × Obj)} (J : Jt)
    (hh : A.handled = none) (hr : IsRange s.heap r 0 b₀ 1 t₀ u₀ v₀) (hn : b₀ = (n : Int)) (hz : n ≤ 1000000) (F : Fr h₀ env.locals s.heap m₀) (N : News h₀ env.locals s.heap news) (h0 : J 0 m₀ news)
    (turn : Later (∀ I i t m₁ news₁ it h tk, i < n → (∀ p ∈ news, p.1 < I) → (∀ p ∈ news₁, p.1 ≠ I) → J i m₁ news₁ → Fr h₀ env.locals h (fun y => if y = x then some (.int (i : Int) t) else m₁ y) → News h₀ env.locals h ((I, it) :: news₁) →
      wpAny (model prog w) A (execs body env) (JPost h₀ env.locals { s with heap := h, toks := tk } I it (J (i + 1)) Q) E { s with heap := h, toks := tk }))
    (done : Later (∀ m₁ news₁ h tk, J n m₁ news₁ → Fr h₀ env.locals h m₁ → News h₀ env.locals h news₁ → Q .next { s with heap := h, toks := tk })) :
    wpAny (model prog w) A (pyIter (.ref r)) (fun it s₂ => LoopAtV prog w A h₀ env x body Q E it s₂) E s := by
  subst hn
  refine iter_rangeUnr (n := n) hh hr ?_ ?_ F N fun I hI => ?_
  · have e : Builtin.Range.rangeSize 0 (n : Int) 1 = (n : Int) := by rw [rangeSize_nat]; omega
    unfold Builtin.Range.small Builtin.Range.rangeFitsLong
    rw [e]
    simp only [Bool.and_eq_true, Bool.or_eq_true, decide_eq_true_eq, beq_iff_eq]
    simp
    omega
  · rw [rangeSize_nat]; omega
  · exact rangeRest_J J (fun i t m₁ news₁ it h tk e o a b c => turn I i t m₁ news₁ it h tk e hI o a b c) done n 0 m₀ news (by omega) (fun p hp => Nat.ne_of_lt (hI p hp)) h0
end
theorem strs_append {vs vs' : List Value} {xs xs' : List Str} (h : StrsAre vs xs) (h' : StrsAre vs' xs') : StrsAre (vs ++ vs') (xs ++ xs') := by
  induction h with
  | nil => exact h'
  | cons x t _ ih => exact .cons x t ih
theorem strs_get {vs : List Value} {xs : List Str} (h : StrsAre vs xs) : ∀ {i : Nat} {v : Value}, vs[i]? = some v → ∃ x t, v = .str x t ∧ xs[i]? = some x := by
  induction h with
  | nil => intro i v e; simp at e
  | cons x t _ ih =>
    intro i v e
    cases i with
    | zero => simp at e; subst e; exact ⟨x, t, rfl, rfl⟩
    | succ i => simp at e; simpa using ih e
theorem subC {Z n : List (Addr × Obj)} {a : Addr × Obj} (h : ∀ p ∈ Z, p ∈ n) : ∀ p ∈ Z, p ∈ a :: n := fun p hp => List.mem_cons_of_mem _ (h p hp)
theorem allLt_out {d : Addr} : ∀ {l : List (Addr × Obj)}, AllLt d l → ∀ p ∈ l, p.1 < d
  | [], _ => fun _ h => nomatch h
  | p :: l, h => fun q hq => by
    rcases List.mem_cons.mp hq with rfl | hq
    · exact h.1
    · exact allLt_out h.2 q hq
theorem allLt_ne {d : Addr} {l : List (Addr × Obj)} (h : AllLt d l) : ∀ p ∈ l, p.1 ≠ d := fun p hp => Nat.ne_of_lt (allLt_out h p hp)
theorem lt_ne {d : Addr} {l : List (Addr × Obj)} (h : ∀ p ∈ l, p.1 < d) : ∀ p ∈ l, p.1 ≠ d := fun p hp => Nat.ne_of_lt (h p hp)
theorem news_sub {h₀ h : Heap} {L : Addr} {a b : List (Addr × Obj)} (N : News h₀ L h a) (hs : ∀ p ∈ b, p ∈ a) : News h₀ L h b := fun p hp => N p (hs p hp)
def mk : List (Str × Option Value) → Str → Option Value
  | [], _ => none
  | p :: r, y => if y = p.1 then p.2 else mk r y
def MapIs (m : Str → Option Value) : List (Str × Option Value) → Prop
  | [] => True
  | p :: r => m p.1 = p.2 ∧ MapIs m r
def AllNe (y : Str) : List (Str × Option Value) → Prop
  | [] => True
  | p :: r => y ≠ p.1 ∧ AllNe y r
theorem mk_of {m : Str → Option Value} {l : List (Str × Option Value)} (h : MapIs m l) (h' : ∀ y, AllNe y l → m y = none) : m = mk l := by
  funext y
  induction l with
  | nil => exact h' y trivial
  | cons p r ih =>
    unfold mk
    by_cases e : y = p.1
    · rw [if_pos e, e]; exact h.1
    · rw [if_neg e]
      by_cases q : AllNe y r
      · have : m y = none := h' y ⟨e, q⟩
        rw [this]
        clear ih h h' this
        induction r with
        | nil => rfl
        | cons p r ih => unfold mk; rw [if_neg q.1]; exact ih q.2
      · clear ih
        have h2 := h.2
        clear h' h
        induction r with
        | nil => exact absurd trivial q
        | cons p r ih =>
          unfold mk
          by_cases e' : y = p.1
          · rw [if_pos e', e']; exact h2.1
          · rw [if_neg e']; exact ih (fun z => q ⟨e', z⟩) h2.2
theorem mk_binds (l : List (Str × Value)) : (fun y => List.lookup y l) = mk (l.map fun p => (p.1, some p.2)) := by
  funext y
  induction l with
  | nil => rfl
  | cons p r ih =>
    obtain ⟨k, v⟩ := p
    simp only [List.lookup_cons, List.map_cons, mk]
    by_cases e : y = k
    · simp [e]
    · rw [if_neg e, show (y == k) = false from by simpa using e]; exact ih
theorem Fr.of_eq {h₀ h : Heap} {L : Addr} {m m' : Str → Option Value} (e : m = m') (F : Fr h₀ L h m) : Fr h₀ L h m' := e ▸ F
theorem append_L {w : World} {A : Around} {E : Value → Shared → Prop} {s : Shared} {h₀ : Heap} {L D : Addr} {m : Str → Option Value} {news news' : List (Addr × Obj)} {vs : List Value} {n : Nat} {x : Value} {Q : Value → Shared → Prop}
    (F : Fr h₀ L s.heap m) (N : News h₀ L s.heap news) (U : Upd D (lst vs n) (lst (vs ++ [x]) (n + 1)) news news')
    (h : ∀ h', Fr h₀ L h' m → News h₀ L h' news' → Q .none { s with heap := h' }) (hsz : vs.length ≤ 1000000) : wpAny (model prg w) A (call (.builtin "list.append") [.ref D, x]) Q E s :=
  append_K (its := vs.toArray) F N (by simpa using U) h (by rw [List.size_toArray, sizeLine_eq]; omega)
section
open LCg
variable {prog : Program} {w : World} {A : Around} {s : Shared} {h₀ : Heap} {L : Addr} {m : Str → Option Value} {env : Env} {elt : PySem.Expr} {x : Str} {scope : Scope} {cl : List (Str × Addr)} {S : List (Addr × Obj) → Prop} {P : Nat → Value → Prop} {Fin : List Value → List (Addr × Obj) → Prop} {n : Nat}
abbrev Jc := Nat → List Value → List (Addr × Obj) → Prop
def CEnd (h₀ : Heap) (L : Addr) (m : Str → Option Value) (s₁ : Shared) (I : Addr) (oI : Obj) (C : Addr) (oC : Obj) (D : Addr) (oD : Obj) (S : List (Addr × Obj) → Prop) (rest : Value → List (Addr × Obj) → Prop) (y : Value) (s₂ : Shared) : Prop := CompEnd h₀ L m s₁ I oI C oC D oD S rest y s₂
theorem CEnd.fin {I C D : Addr} {s₁ : Shared} {oI oC oD : Obj} {rest : Value → List (Addr × Obj) → Prop} {y : Value} {h' : Heap} {tk : Nat} {all : List (Addr × Obj)}
    (news' : List (Addr × Obj)) (F : Fr h₀ L h' m) (N : News h₀ L h' all) (sub : ∀ p ∈ (I, oI) :: (C, oC) :: (D, oD) :: news', p ∈ all) (off : ∀ p ∈ news', p.1 ≠ I ∧ p.1 ≠ C ∧ p.1 ≠ D) (hS : S news') (r : rest y news') :
    CEnd h₀ L m s₁ I oI C oC D oD S rest y { s₁ with heap := h', toks := tk } := CompEnd.intro F N news' sub (Off3.of off) hS r
theorem CompEnd.mono {I C D : Addr} {s₁ : Shared} {oI oC oD : Obj} {rest rest' : Value → List (Addr × Obj) → Prop} {y : Value} {s₂ : Shared} (hr : ∀ n, (∀ p ∈ n, p.1 ≠ I ∧ p.1 ≠ C ∧ p.1 ≠ D) → S n → rest y n → rest' y n) (h : CompEnd h₀ L m s₁ I oI C oC D oD S rest y s₂) : CompEnd h₀ L m s₁ I oI C oC D oD S rest' y s₂ := by
  refine E3_6 (h) ?_; (try clear h); intro h' tk n' e F N o hS r
  exact ⟨h', tk, n', e, F, N, o, hS, hr _ o.mem hS r⟩
theorem compRest_J (J : Jc) (turn : ∀ i ys news v I oI C oC D m₂ h tk (E' : Value → Shared → Prop), i < n → P i v → J i ys news → NsObj oC m₂ → m₂ x = some v → Fr h₀ L h m → News h₀ L h ((I, oI) :: (C, oC) :: (D, LCg.lst ys) :: news) →
      (∀ p ∈ news, p.1 ≠ I ∧ p.1 ≠ C ∧ p.1 ≠ D) → ((@Ne Nat I C) ∧ (@Ne Nat I D) ∧ (@Ne Nat C D)) →
      wpAny (model prog w) A (eval elt (compEnvC scope cl C env)) (CEnd h₀ L m { s with heap := h, toks := tk } I oI C oC D (LCg.lst ys) S (fun y news' => J (i + 1) (ys ++ [y]) news')) E' { s with heap := h, toks := tk })
    (fin : ∀ ys news, J n ys news → Fin ys news) : ∀ (k i : Nat) (ys : List Value) (news : List (Addr × Obj)), i + k = n → J i ys news → CompRest prog w A h₀ L m env elt x scope cl s S P Fin k i ys news
  | 0, i, ys, news, e, hj => by
    have : i = n := by omega
    subst this
    exact fin ys news hj
  | k + 1, i, ys, news, e, hj => by
    intro v I oI C oC D m₂ h tk E' hv hC hx F N off ne
    refine wpAny_mono (turn i ys news v I oI C oC D m₂ h tk E' (by omega) hv hj hC hx F N off.mem ne) (fun y s₂ p => ?_) fun _ _ e => e
    exact CompEnd.mono (fun n' _ _ r => compRest_J J turn fin k (i + 1) (ys ++ [y]) n' (by omega) r) p
theorem comp_range_J {Fin : Shared → List Value → List (Addr × Obj) → Prop} {r : Addr} {b : Int} {t u v : Tok} {news : List (Addr × Obj)} {s₁ : Shared} (J : Jc)
    (hh : A.handled = none) (F : Fr h₀ L s₁.heap m) (N : News h₀ L s₁.heap news) (hr : IsRange s₁.heap r 0 b 1 t u v) (hn : b = (n : Int)) (hz : n ≤ 1000000) (h0 : J 0 [] news)
    (turn : Later (∀ (s : Shared) i ys news v I oI C oC D m₂ h tk (E' : Value → Shared → Prop), i < n → (∃ t, v = .int (i : Int) t) → J i ys news → NsObj oC m₂ → m₂ x = some v → Fr h₀ L h m → News h₀ L h ((I, oI) :: (C, oC) :: (D, LCg.lst ys) :: news) →
      (∀ p ∈ news, p.1 ≠ I ∧ p.1 ≠ C ∧ p.1 ≠ D) → ((@Ne Nat I C) ∧ (@Ne Nat I D) ∧ (@Ne Nat C D)) →
      wpAny (model prog w) A (eval elt (compEnvC scope cl C env)) (CEnd h₀ L m { s with heap := h, toks := tk } I oI C oC D (LCg.lst ys) (fun _ => True) (fun y news' => J (i + 1) (ys ++ [y]) news')) E' { s with heap := h, toks := tk }))
    (fin : Later (∀ g ys news, J n ys news → Fin { s₁ with heap := g } ys news)) : CompSrc prog w A h₀ L m env elt x scope cl Fin (.ref r) s₁ := by
  subst hn
  refine CompSrc.range hh F N hr (small_one (by decide) (by decide) (by omega) (by omega)) (by rw [rangeSize_nat]; omega : _ = ((n : Nat) : Int)) (by rw [sizeLine_eq]; omega) fun g => ?_
  refine compRest_J J (fun i ys news v I oI C oC D m₂ h tk E' hi hv => turn _ i ys news v I oI C oC D m₂ h tk E' hi (by obtain ⟨t, rfl⟩ := hv; exact ⟨t, by rw [Int.zero_add]⟩)) (fin g) n 0 [] news (by omega) h0
theorem comp_list_J {Fin : Shared → List Value → List (Addr × Obj) → Prop} {ax : Addr} {vs : List Value} {k : Nat} {news : List (Addr × Obj)} {s₁ : Shared} (J : Jc)
    (hh : A.handled = none) (F : Fr h₀ L s₁.heap m) (N : News h₀ L s₁.heap news) (hm : (ax, lst vs k) ∈ news) (hz : vs.length ≤ 1000000) (h0 : J 0 [] news)
    (turn : Later (∀ (s : Shared) i ys news v I oI C oC D m₂ h tk (E' : Value → Shared → Prop), i < vs.length → vs[i]? = some v → J i ys news → NsObj oC m₂ → m₂ x = some v → Fr h₀ L h m → News h₀ L h ((I, oI) :: (C, oC) :: (D, LCg.lst ys) :: news) →
      (∀ p ∈ news, p.1 ≠ I ∧ p.1 ≠ C ∧ p.1 ≠ D) → ((@Ne Nat I C) ∧ (@Ne Nat I D) ∧ (@Ne Nat C D)) →
      wpAny (model prog w) A (eval elt (compEnvC scope cl C env)) (CEnd h₀ L m { s with heap := h, toks := tk } I oI C oC D (LCg.lst ys) (SrcAt h₀ ax vs.toArray) (fun y news' => J (i + 1) (ys ++ [y]) news')) E' { s with heap := h, toks := tk }))
    (fin : Later (∀ g ys news, J vs.length ys news → Fin { s₁ with heap := g } ys news)) : CompSrc prog w A h₀ L m env elt x scope cl Fin (.ref ax) s₁ := by
  refine CompSrc.ledger hh F N hm (by rw [sizeLine_eq, List.size_toArray]; omega) fun g => ?_
  rw [List.size_toArray]
  exact compRest_J J (fun i ys news v I oI C oC D m₂ h tk E' hi hv => turn _ i ys news v I oI C oC D m₂ h tk E' hi (by simpa using hv)) (fin g) vs.length 0 [] news (by omega) h0
end
theorem off1_out {D : Addr} : ∀ {l : List (Addr × Obj)}, LCg.Off1 D l → ∀ p ∈ l, p.1 ≠ D
  | [], _ => fun _ h => nomatch h
  | p :: l, h => fun q hq => by
    rcases List.mem_cons.mp hq with rfl | hq
    · exact h.1
    · exact off1_out h.2 q hq

-- part p01b_map.lean
def Off (l : List (Str × Option Value)) (m : Str → Option Value) : Prop := ∀ y, AllNe y l → m y = none
def hasK (k : Str) : List (Str × Option Value) → Bool
  | [] => false
  | p :: r => decide (k = p.1) || hasK k r
theorem ne_has {k y : Str} : ∀ {l : List (Str × Option Value)}, hasK k l = true → AllNe y l → y ≠ k
  | p :: r, h, hy => by
    unfold hasK at h
    by_cases e : k = p.1
    · rw [e]; exact hy.1
    · rw [decide_eq_false e, Bool.false_or] at h
      exact ne_has h hy.2
theorem Off.ite {k : Str} {v : Option Value} {m : Str → Option Value} {l : List (Str × Option Value)} (h : hasK k l = true) (o : Off l m) : Off l (fun y => if y = k then v else m y) := fun y hy => (if_neg (ne_has h hy)).trans (o y hy)
theorem Off.mk : ∀ {l' l : List (Str × Option Value)}, (∀ y, AllNe y l → AllNe y l') → Off l (Mine.mk l')
  | [], _, _ => fun _ _ => rfl
  | p :: r, l, h => fun y hy => (if_neg (h y hy).1).trans (Off.mk (l := r) (fun _ q => q) y (h y hy).2)
theorem Off.mk' {l' l : List (Str × Option Value)} (h : l'.map (·.1) = l.map (·.1)) : Off l (Mine.mk l') := Off.mk fun y hy => by
  induction l' generalizing l with
  | nil => trivial
  | cons p r ih =>
    cases l with
    | nil => cases h
    | cons q l =>
      simp only [List.map_cons, List.cons.injEq] at h
      exact ⟨by rw [h.1]; exact hy.1, ih h.2 hy.2⟩
theorem Off.nil {l : List (Str × Option Value)} : Off l (fun _ => none) := fun _ _ => rfl
theorem mk_of2 {m : Str → Option Value} {l : List (Str × Option Value)} (o : Off l m) (h : l.map (fun p => m p.1) = l.map (·.2)) : m = mk l := mk_of (by
  clear o
  induction l with
  | nil => trivial
  | cons p r ih =>
    simp only [List.map_cons, List.cons.injEq] at h
    exact ⟨h.1, ih h.2⟩) o
theorem lt_ne_le {a b : Addr} {news : List (Addr × Obj)} (h : ∀ p ∈ news, p.1 < a) (hb : @LE.le Nat _ a b) : ∀ p ∈ news, p.1 ≠ b := fun p hp => Nat.ne_of_lt (Nat.lt_of_lt_of_le (h p hp) hb)
theorem room0 {R d a b : Nat} (h : d + b < R) (e : Nat.ble a b = true) : d + a < R := Nat.lt_of_le_of_lt (Nat.add_le_add_left (Nat.le_of_ble_eq_true e) d) h
theorem room00 {R d b : Nat} (h : d + b < R) : d < R := Nat.lt_of_le_of_lt (Nat.le_add_right d b) h
theorem room1 {R d k a b : Nat} (h : d + b < R) (e : Nat.ble (k + a) b = true) : d + k + a < R := by rw [Nat.add_assoc]; exact room0 h e
theorem room2 {R d k l a b : Nat} (h : d + b < R) (e : Nat.ble (k + l + a) b = true) : d + k + l + a < R := by rw [Nat.add_assoc d k l]; exact room1 h e

theorem words1 : True := by
  k_with "FILL" => (have hh : PySem.Challenge.rw_nu0068_01 = PySem.Challenge.rw_nu0068_01 := rfl; revert hh; revert X; k_fill; intro X hh; clear hh)
  k_with "ROOM" => first | (refine' room1 ?h9 ?e9; (case h9 => assumption); (case e9 => exact rfl)) | (refine' room0 ?h9 ?e9; (case h9 => assumption); (case e9 => exact rfl)) | (refine' room00 ?h9; (case h9 => assumption)) | (refine' room2 ?h9 ?e9; (case h9 => assumption); (case e9 => exact rfl))
  k_with "W1" => first | k_extra "ROOM" | (walk_say "OMEGA room"; ((try simp only [depth_under_make, depth_under_kw, depth_in1, depth_deeper, depth_caller] at *); (try dsimp only [aT, recursionLimit] at *); omega))
  k_with "W2" => first | k_extra "ROOM" | (walk_say "OMEGA units"; (have hcL9 := cLine_is; ((try simp only [units_in1, units_deeper, Around.mark_units, units_caller] at *); (try dsimp only [aT] at *); omega)))
  k_with "W3" => exact isList_mem (by assumption) (by k_mem)
  k_with "ENTER" => (refine wpAny_call ?_; k_dflt (refine' code_def ?k1 ?k2 ?k3 ?k4 ?k5 ?kA ?kF ?kK ?k6 ?k7 ?k8 ?k9 ?kB ?_ ?c2 ?c3 ?c4 ?c5; (case kA => exact rfl); (case kF => assumption); (case kK => assumption); (case k1 => k_asm); (case k2 => k_asm); (case k3 => k_asm); (case k4 => k_asm); (case k5 => k_asm); (case k6 => k_is); (case k7 => k_is); (case k8 => ktr_room); (case k9 => exact BindsTo.of_eq rfl); (case c5 => decide); (case kB => exact locs rfl); (case c2 => exact rfl); (case c3 => exact rfl); (case c4 => exact rfl); k_whole; intro g' L' h' FG' F' N' B' X' T'; (try dsimp only); (try generalize _ + List.length _ = tkE); (try k_fold)))
  k_with "SIZE" => first | (simp only [List.length_map, List.length_append, List.length_cons, List.length_nil]; omega) | omega
  k_with "IDX" => first | assumption | (simp only [Int.toNat_natCast, List.getElem?_map, *]; done) | (simp only [Int.toNat_natCast, List.getElem?_map, *]; rfl)
  k_with "W4" => (k_here; (with_reducible show wpAny _ _ (call (Value.builtin "len") [Value.ref _]) _ _ _); k_dflt (refine' len_mem ?k1w9 ?k2w9 ?k3w9 ?_; (case k1w9 => k_asm); (case k2w9 => k_mem); (case k3w9 => k_extra "SIZE"); k_whole); (intro _ _); (try simp only [List.length_map]))
  k_with "W5" => (k_here; (with_reducible show wpAny _ _ (subscriptTail _ _ (Value.ref _) (Value.int _ _)) _ _ _); k_dflt (refine' item_mem ?k1w9 ?k2w9 ?k3w9 ?k4w9 ?k5w9 ?_ ?k6w9; (case k1w9 => k_asm); (case k2w9 => k_mem); (case k3w9 => first | decide | exact Int.natCast_nonneg _ | omega); (case k4w9 => first | decide | omega); (case k5w9 => first | rfl | k_extra "IDX"); (case k6w9 => with_unfolding_all rfl); k_whole))
  k_with "W6" => (k_here; (with_reducible show wpAny _ _ (call (Value.type _) [Value.ref _]) _ _ _); k_dflt (refine' list_copyK ?k1w9 ?k2w9 ?k3w9 ?_ ?zw9; (case k1w9 => k_asm); (case k2w9 => k_asm); (case k3w9 => is_list); (case zw9 => (simp only [List.size_toArray, sizeLine_eq, List.length_append, List.length_cons, List.length_nil]; omega)); k_whole))
  k_with "W7" => first | assumption | exact lt_ne (by assumption) | exact allLt_ne (by assumption)
  k_with "INTAIL" => first | assumption | (refine List.mem_cons_of_mem _ ?_; k_extra "INTAIL")
  k_with "SUB" => ((repeat (refine List.forall_mem_cons.mpr ⟨by k_mem, ?_⟩)); first | exact List.forall_mem_nil _ | (intro p hp; k_extra "INTAIL"))
  k_with "OFFM" => first | exact Off.mk' rfl | exact Off.nil | (refine Off.ite rfl ?_; k_extra "OFFM")
  k_with "MAP" => (refine mk_of2 ?_ rfl; k_extra "OFFM")
  k_with "W8" => (k_here; (with_reducible show wpAny _ _ (call (Value.builtin _) [Value.ref _, _]) _ _ _); k_dflt (refine' append_L ?k1w9 ?k2w9 ?k3w9 ?_ ?zw9; (case k1w9 => k_asm); (case k2w9 => k_asm); (case k3w9 => k_upd); (case zw9 => k_extra "SIZE"); k_whole))
  k_with "OFF" => first | exact hoff | (intro p hp; rcases List.mem_cons.mp hp with hp | hp; (subst hp; exact hne); exact hof p hp)
  k_with "W9" => (k_here; k_dflt (first | refine LCg.ListComp_U (F₀ := by k_asm) (by with_unfolding_all rfl) (by decide) (by rfl) (by decide) (by rfl) ?_ | refine LCt.ListComp_T (F₀ := by k_asm) (by with_unfolding_all rfl) (by decide) (by rfl) (by decide) (by rfl) ?_ | refine LCp.ListComp_P (F₀ := by k_asm) (by with_unfolding_all rfl) (by decide) (by rfl) (by decide) (by rfl) (by rfl) (by decide) ?_))
  k_with "W10" => (k_here; k_dflt (first | refine LCg.Assign_ListComp_U (F₀ := by k_asm) (by rfl) (by with_unfolding_all rfl) (by with_unfolding_all rfl) (by decide) (by rfl) (by decide) (by rfl) (by rfl) (by rfl) ?_ | refine LCt.Assign_ListComp_T (F₀ := by k_asm) (by rfl) (by with_unfolding_all rfl) (by with_unfolding_all rfl) (by decide) (by rfl) (by decide) (by rfl) (by rfl) (by rfl) ?_ | refine LCp.Assign_ListComp_P (F₀ := by k_asm) (by rfl) (by with_unfolding_all rfl) (by with_unfolding_all rfl) (by decide) (by rfl) (by decide) (by rfl) (by rfl) (by decide) (by rfl) (by rfl) ?_))
  k_with "ENTERC" => (refine wpAny_call ?_; k_dflt (refine' code_defC ?k1 ?k2 ?k3 ?k4 ?k5 ?kA ?kF ?kK ?k6 ?k7 ?k8 ?k9 ?kB ?kD ?_ ?c2 ?c3 ?c4; (case kA => exact rfl); (case kF => assumption); (case kK => assumption); (case k1 => k_asm); (case k2 => k_asm); (case k3 => k_asm); (case k4 => k_asm); (case k5 => k_asm); (case k6 => k_is); (case k7 => k_is); (case k8 => ktr_room); (case k9 => exact BindsTo.of_eq rfl); (case kB => exact rfl); (case kD => decide +kernel); (case c2 => exact rfl); (case c3 => exact rfl); (case c4 => exact rfl); k_whole; intro g' L' h' tk' cells' FG' F' N' Y' B' X' T' l1; (try k_lt l1); k_cells Y'; (try simp only [List.cons_append, List.nil_append] at N'); (try dsimp only); (try generalize _ + List.length _ = tkE); (try k_fold)))
  k_with "OFF3" => (have ho3 := LCg.Off3.of hoff; simp only [LCg.Off3, and_true] at ho3)
  k_with "ENTERCODE" => (k_dflt (refine' code_def ?k1 ?k2 ?k3 ?k4 ?k5 ?kA ?kF ?kK ?k6 ?k7 ?k8 ?k9 ?kB ?_ ?c2 ?c3 ?c4 ?c5; (case kA => exact rfl); (case kF => assumption); (case kK => assumption); (case k1 => k_asm); (case k2 => k_asm); (case k3 => k_asm); (case k4 => k_asm); (case k5 => k_asm); (case k6 => k_is); (case k7 => k_is); (case k8 => ktr_room); (case k9 => exact BindsTo.of_eq rfl); (case c5 => decide); (case kB => exact locs rfl); (case c2 => exact rfl); (case c3 => exact rfl); (case c4 => exact rfl); k_whole; intro g' L' h' FG' F' N' B' X' T'; (try dsimp only); (try generalize _ + List.length _ = tkE); (try k_fold)))
  k_with "CLS" => (k_here; k_dflt (refine' call_cls ?k1 ?k2 ?k3 ?k4 ?k5 ?k6 ?_; (case k1 => k_asm); (case k2 => k_asm); (case k3 => k_asm); (case k4 => k_is); (case k5 => k_is); (case k6 => k_is); k_whole; intro x' d' h' F' N' l1 l2; (try k_lt l1); (try k_lt2 l2); (try k_sweep)); k_extra "ENTERCODE")
  k_with "MEM" => first | with_reducible assumption | exact List.mem_cons_self | (refine List.mem_cons_of_mem _ ?_; k_extra "MEM")
  k_with "W11" => first | exact Nat.ne_of_lt (by with_reducible assumption) | exact Nat.ne_of_gt (by with_reducible assumption)
  trivial
local macro_rules | `(tactic| ktr_room) => `(tactic| k_extra "W1")
local macro_rules | `(tactic| ktr_units) => `(tactic| k_extra "W2")
set_option hygiene false in
local macro_rules | `(tactic| k_room) => `(tactic| ktr_room)
set_option hygiene false in
local macro_rules | `(tactic| k_units) => `(tactic| ktr_units)
local macro_rules | `(tactic| is_list) => `(tactic| k_extra "W3")
local macro_rules | `(tactic| walk_at "FORINV") => `(tactic| (k_here; (rename Fr _ _ _ _ => lF'); (with_unfolding_all refine' For_invVF lF' ?k1 ?k2 ?_; (case k1 => exact rfl); (case k2 => exact rfl); k_whole)))
local macro_rules | `(tactic| walk_at "call builtin:len") => `(tactic| k_extra "W4")
local macro_rules | `(tactic| walk_at "subscriptTail") => `(tactic| k_extra "W5")
local macro_rules | `(tactic| walk_at "subscriptTail Name Constant ref int") => `(tactic| walk_at "subscriptTail")
local macro_rules | `(tactic| walk_at "subscriptTail Name Name ref int") => `(tactic| walk_at "subscriptTail")
local macro_rules | `(tactic| walk_at "subscriptTail Attribute Name ref int") => `(tactic| walk_at "subscriptTail")
local macro_rules | `(tactic| walk_at "subscriptTail Name BinOp ref int") => `(tactic| walk_at "subscriptTail")
local macro_rules | `(tactic| walk_at "call type:list") => `(tactic| (k_extra "W6"; intro D' c' h' F' N' l1; (try k_lt l1); (try k_sweep)))
local macro_rules | `(tactic| k_all) => `(tactic| k_extra "W7")
local macro_rules | `(tactic| walk_at "call builtin:list.append") => `(tactic| (k_extra "W8"; intro h' F' N'; (try k_sweep)))
local macro_rules | `(tactic| k_updF) => `(tactic| with_reducible assumption)
local macro_rules | `(tactic| k_upd) => `(tactic| with_reducible assumption)
local macro_rules | `(tactic| walk_at "eval ListComp") => `(tactic| k_extra "W9")
local macro_rules | `(tactic| walk_at "exec Assign cons ListComp") => `(tactic| k_extra "W10")
local macro_rules | `(tactic| walk_at "CompSrc") => `(tactic| refine stopAt ?_)
local macro_rules | `(tactic| walk_at "CompSrcT") => `(tactic| refine stopAt ?_)
local macro_rules | `(tactic| walk_at "SrcLP") => `(tactic| refine stopAt ?_)
local macro_rules | `(tactic| k_mem) => `(tactic| k_extra "MEM")
local macro_rules | `(tactic| k_lt $h:ident) => `(tactic| (replace $h := allLt_of $h; simp only [AllLt, and_true] at $h:ident; (repeat (have lh9 := And.left $h; replace $h := And.right $h))))
local macro_rules | `(tactic| k_ne) => `(tactic| k_extra "W11")
local macro_rules | `(tactic| walk_at "SUBI") => `(tactic| first | with_reducible assumption | exact fun _ h => h | (refine subC ?_; walk_at "SUBI"))

-- part p02_tree.lean
structure NR where
  x : Addr
  dx : Addr
  c : Addr
  a : Addr
  ns : Addr
  kind : Str
  name : Str
  uri : Str
  loc : Str
  value : Str
  parent : Value
  tk : Tok
  tn : Tok
  tu : Tok
  tl : Tok
  tv : Tok
  k1 : Tok
  k2 : Tok
  k3 : Tok
  k4 : Tok
  k5 : Tok
  k6 : Tok
  k7 : Tok
  k8 : Tok
  k9 : Tok
  kv : List Value
  av : List Value
  kn : Nat
  an : Nat
abbrev NR.dict (P : Params) (R : NR) : Obj := dictOf [ent P "kind" R.k1 (.str R.kind R.tk), ent P "name" R.k2 (.str R.name R.tn), ent P "uri" R.k3 (.str R.uri R.tu), ent P "local" R.k4 (.str R.loc R.tl), ent P "value" R.k5 (.str R.value R.tv),
  ent P "parent" R.k6 R.parent, ent P "children" R.k7 (.ref R.c), ent P "attributes" R.k8 (.ref R.a), ent P "namespaces" R.k9 (.ref R.ns)] 9
def NR.led (P : Params) (R : NR) : List (Addr × Obj) := [(R.x, instObj 256 R.dx), (R.dx, R.dict P), (R.c, lst R.kv R.kn), (R.a, lst R.av R.an), (R.ns, lst [] 0)]
structure TreeIn (P : Params) (news : List (Addr × Obj)) (t td rl : Addr) (rn : Nat) (tk : Tok) (rows : List NR) : Prop where
  h1 : (t, instObj 445 td) ∈ news
  h2 : (td, dictOf [ent P "rows" tk (.ref rl)] 1) ∈ news
  h3 : (rl, lst (rows.map fun R => .ref R.x) rn) ∈ news
  h4 : ∀ R ∈ rows, ∀ p ∈ R.led P, p ∈ news
  sz : rows.length ≤ 1000
  szk : ∀ R ∈ rows, R.kv.length ≤ 1000 ∧ R.av.length ≤ 1000

theorem TreeIn.row {P : Params} {news : List (Addr × Obj)} {t td rl : Addr} {rn : Nat} {tk : Tok} {rows : List NR} {k : Int} {R : NR} (h : TreeIn P news t td rl rn tk rows) (e : rows[k.toNat]? = some R) :
    (R.x, instObj 256 R.dx) ∈ news ∧ (R.dx, R.dict P) ∈ news ∧ (R.c, lst R.kv R.kn) ∈ news ∧ (R.a, lst R.av R.an) ∈ news ∧ k.toNat < rows.length ∧ R.kv.length ≤ 1000 ∧ R.av.length ≤ 1000 := by
  have hm := List.mem_of_getElem? e
  have h4 := h.h4 R hm
  unfold NR.led at h4
  refine ⟨h4 _ (by simp), h4 _ (by simp), h4 _ (by simp), h4 _ (by simp), ?_, h.szk R hm⟩
  rcases Nat.lt_or_ge k.toNat rows.length with h | h
  · exact h
  · rw [List.getElem?_eq_none h] at e; cases e
section
variable (w : World) {dp un : Nat} {gd : Option (List Code)} {env : Env} {outer : List Env} {h₀ : Heap} {L : Addr} {m : Str → Option Value} {s : Shared} {Q E : Value → Shared → Prop} {news : List (Addr × Obj)}
    {t td rl : Addr} {rn : Nat} {tk : Tok} {rows : List NR} {k : Int} {ti : Tok} {R : NR}
theorem row_t (C : Cx w outer h₀ L env m s.heap news) (hT : TreeIn w.params news t td rl rn tk rows) (h0 : 0 ≤ k) (hi : rows[k.toNat]? = some R)
    (hd : dp + 1 < recursionLimit) (hu : un + 8 < cLine)
    (ret : ∀ h' tk', Fr h₀ L h' m → News h₀ L h' news → Q (.ref R.x) { s with heap := h', toks := tk' }) :
    wpAny (model prg w) (aT dp un gd env outer) (call (.ref 288) [.ref t, .int k ti]) Q E s := by
  refine C.elim ?_; intro A₀ base mean mg mb B T F N X hf hk
  k_extra "FILL"
  have m1 := hT.h1
  have m2 := hT.h2
  have m3 := hT.h3
  have hsz := hT.sz
  have hlen := (hT.row hi).2.2.2.2.1
  k_extra "ENTER"
  k_steps
  exact ret _ _ (by k_asm) (by k_asm)

theorem words2 : True := by
  k_with "W12" => (k_here; k_dflt (refine' row_t _ ?Cw9 ?hTw9 ?h0w9 ?hiw9 ?hdw9 ?huw9 ?_; (case Cw9 => exact Cx.mk' (by k_asm) (by k_asm) (by k_asm) (by k_asm) (by k_asm) rfl rfl); (case hTw9 => assumption); (case h0w9 => k_asm); (case hiw9 => k_asm); (case hdw9 => ktr_room); (case huw9 => ktr_units); k_whole))
  trivial
local macro_rules | `(tactic| walk_at "call ref") => `(tactic| (k_extra "W12"; (intro h' tk' F' N'); (try dsimp only)))

theorem kind_t (C : Cx w outer h₀ L env m s.heap news) (hT : TreeIn w.params news t td rl rn tk rows) (h0 : 0 ≤ k) (hi : rows[k.toNat]? = some R)
    (hd : dp + 2 < recursionLimit) (hu : un + 16 < cLine)
    (ret : ∀ h' tk', Fr h₀ L h' m → News h₀ L h' news → Q (.str R.kind R.tk) { s with heap := h', toks := tk' }) :
    wpAny (model prg w) (aT dp un gd env outer) (call (.ref 365) [.ref t, .int k ti]) Q E s := by
  refine C.elim ?_; intro A₀ base mean mg mb B T F N X hf hk
  k_extra "FILL"
  have m1 := hT.h1
  have m2 := hT.h2
  refine E0_7 (hT.row hi) ?_; intro r1 r2 r3 r4 hlen z1 z2
  k_extra "ENTER"
  k_steps
  exact ret _ _ (by k_asm) (by k_asm)
theorem name_t (C : Cx w outer h₀ L env m s.heap news) (hT : TreeIn w.params news t td rl rn tk rows) (h0 : 0 ≤ k) (hi : rows[k.toNat]? = some R)
    (hd : dp + 2 < recursionLimit) (hu : un + 16 < cLine)
    (ret : ∀ h' tk', Fr h₀ L h' m → News h₀ L h' news → Q (.str R.name R.tn) { s with heap := h', toks := tk' }) :
    wpAny (model prg w) (aT dp un gd env outer) (call (.ref 372) [.ref t, .int k ti]) Q E s := by
  refine C.elim ?_; intro A₀ base mean mg mb B T F N X hf hk
  k_extra "FILL"
  have m1 := hT.h1
  have m2 := hT.h2
  refine E0_7 (hT.row hi) ?_; intro r1 r2 r3 r4 hlen z1 z2
  k_extra "ENTER"
  k_steps
  exact ret _ _ (by k_asm) (by k_asm)
theorem value_t (C : Cx w outer h₀ L env m s.heap news) (hT : TreeIn w.params news t td rl rn tk rows) (h0 : 0 ≤ k) (hi : rows[k.toNat]? = some R)
    (hd : dp + 2 < recursionLimit) (hu : un + 16 < cLine)
    (ret : ∀ h' tk', Fr h₀ L h' m → News h₀ L h' news → Q (.str R.value R.tv) { s with heap := h', toks := tk' }) :
    wpAny (model prg w) (aT dp un gd env outer) (call (.ref 393) [.ref t, .int k ti]) Q E s := by
  refine C.elim ?_; intro A₀ base mean mg mb B T F N X hf hk
  k_extra "FILL"
  have m1 := hT.h1
  have m2 := hT.h2
  refine E0_7 (hT.row hi) ?_; intro r1 r2 r3 r4 hlen z1 z2
  k_extra "ENTER"
  k_steps
  exact ret _ _ (by k_asm) (by k_asm)
theorem children_t (C : Cx w outer h₀ L env m s.heap news) (hT : TreeIn w.params news t td rl rn tk rows) (h0 : 0 ≤ k) (hi : rows[k.toNat]? = some R)
    (hd : dp + 2 < recursionLimit) (hu : un + 16 < cLine)
    (ret : ∀ l n h' tk', (∀ p ∈ news, p.1 < l) → Fr h₀ L h' m → News h₀ L h' ((l, lst R.kv n) :: news) → Q (.ref l) { s with heap := h', toks := tk' }) :
    wpAny (model prg w) (aT dp un gd env outer) (call (.ref 407) [.ref t, .int k ti]) Q E s := by
  refine C.elim ?_; intro A₀ base mean mg mb B T F N X hf hk
  k_extra "FILL"
  have m1 := hT.h1
  have m2 := hT.h2
  refine E0_7 (hT.row hi) ?_; intro r1 r2 r3 r4 hlen z1 z2
  k_extra "ENTER"
  k_steps
  exact ret _ _ _ _ (by assumption) (by k_asm) (by k_asm)
theorem attributes_t (C : Cx w outer h₀ L env m s.heap news) (hT : TreeIn w.params news t td rl rn tk rows) (h0 : 0 ≤ k) (hi : rows[k.toNat]? = some R)
    (hd : dp + 2 < recursionLimit) (hu : un + 16 < cLine)
    (ret : ∀ l n h' tk', (∀ p ∈ news, p.1 < l) → Fr h₀ L h' m → News h₀ L h' ((l, lst R.av n) :: news) → Q (.ref l) { s with heap := h', toks := tk' }) :
    wpAny (model prg w) (aT dp un gd env outer) (call (.ref 414) [.ref t, .int k ti]) Q E s := by
  refine C.elim ?_; intro A₀ base mean mg mb B T F N X hf hk
  k_extra "FILL"
  have m1 := hT.h1
  have m2 := hT.h2
  refine E0_7 (hT.row hi) ?_; intro r1 r2 r3 r4 hlen z1 z2
  k_extra "ENTER"
  k_steps
  exact ret _ _ _ _ (by assumption) (by k_asm) (by k_asm)
end

-- part p03_split.lean
noncomputable def isSp (x : Str) : Bool := (!(Builtin.Str.occurrences (Str.ofString " \t\n\x0d") x 0 (Str.ofString " \t\n\x0d").length 1).isEmpty) && (x != Str.ofString "")
section
theorem words3 : True := by
  k_with "W13" => (k_here; (with_reducible show wpAny _ _ (call (Value.ref _) _) _ _ _); refine stopAt ?_)
  trivial
local macro_rules | `(tactic| walk_at "pyIter ref") => `(tactic| ((with_reducible show wpAny _ _ (pyIter (Value.ref _)) (fun it s₂ => LoopAtV _ _ _ _ _ _ _ _ _ it s₂) _ _); refine stopAt ?_))
local macro_rules | `(tactic| walk_at "exec For Name Call cons nil") => `(tactic| walk_at "FORINV")
local macro_rules | `(tactic| walk_at "exec For Name Name cons nil") => `(tactic| walk_at "FORINV")
local macro_rules | `(tactic| walk_at "exec For Name Subscript cons nil") => `(tactic| walk_at "FORINV")
local macro_rules | `(tactic| walk_at "exec For Name List cons nil") => `(tactic| walk_at "FORINV")
local macro_rules | `(tactic| walk_at "call ref") => `(tactic| k_extra "W13")

variable (w : World) {dp un : Nat} {gd : Option (List Code)} {env : Env} {outer : List Env} {h₀ : Heap} {L : Addr} {m : Str → Option Value} {s : Shared} {Q E : Value → Shared → Prop} {news : List (Addr × Obj)}
theorem is_space_t {x : Str} {tx : Tok} (C : Cx w outer h₀ L env m s.heap news) 
    (hd : dp + 1 < recursionLimit) (hu : un + 8 < cLine)
    (ret : ∀ h' tk', Fr h₀ L h' m → News h₀ L h' news → Q (.bool (isSp x)) { s with heap := h', toks := tk' }) :
    wpAny (model prg w) (aT dp un gd env outer) (call (.ref 28) [.str x tx]) Q E s := by
  refine C.elim ?_; intro A₀ base mean mg mb B T F N X hf hk
  k_extra "FILL"
  k_extra "ENTER"
  unfold isSp at ret
  k_steps
  · (rename (_ = true) => h); rw [h, Bool.not_true, Bool.false_and] at ret; rw [h]; exact ret _ _ (by k_asm) (by k_asm)
  · (rename (_ = false) => h); rw [h, Bool.not_false, Bool.true_and] at ret; exact ret _ _ (by k_asm) (by k_asm)
theorem words4 : True := by
  k_with "W14" => (k_here; k_dflt (refine' is_space_t _ ?Cw9 ?hdw9 ?huw9 ?_; (case Cw9 => exact Cx.mk' (by k_asm) (by k_asm) (by k_asm) (by k_asm) (by k_asm) rfl rfl); (case hdw9 => ktr_room); (case huw9 => ktr_units); k_whole))
  trivial
local macro_rules | `(tactic| walk_at "call ref") => `(tactic| (k_extra "W14"; (intro h' tk' F' N'); (try dsimp only)))

noncomputable def spl (x : Str) : Nat → List Str × Int
  | 0 => ([], 0)
  | i + 1 => if i = x.length ∨ isSp (Txt.item x (i : Int)) = true then ((if (spl x i).2 < (i : Int) then (spl x i).1 ++ [Txt.slice x (some (spl x i).2) (some (i : Int))] else (spl x i).1), (i : Int) + 1) else spl x i
theorem spl_len (x : Str) : ∀ i, (spl x i).1.length ≤ i
  | 0 => by simp [spl]
  | i + 1 => by
    have := spl_len x i
    unfold spl
    split
    · dsimp only
      split
      · simp; omega
      · omega
    · omega
theorem spl_sp {x : Str} {i : Nat} (h : i = x.length ∨ isSp (Txt.item x (i : Int)) = true) (hlt : (spl x i).2 < (i : Int)) : spl x (i + 1) = ((spl x i).1 ++ [Txt.slice x (some (spl x i).2) (some (i : Int))], (i : Int) + 1) := by
  rw [spl, if_pos h, if_pos hlt]
theorem spl_sp' {x : Str} {i : Nat} (h : i = x.length ∨ isSp (Txt.item x (i : Int)) = true) (hlt : ¬ (spl x i).2 < (i : Int)) : spl x (i + 1) = ((spl x i).1, (i : Int) + 1) := by
  rw [spl, if_pos h, if_neg hlt]
theorem spl_no {x : Str} {i : Nat} (h : i ≠ x.length) (h' : isSp (Txt.item x (i : Int)) = false) : spl x (i + 1) = spl x i := by
  rw [spl, if_neg]; rintro (e | e)
  · exact h e
  · rw [h'] at e; cases e
abbrev splM (x : Str) (tx : Tok) (l : Addr) (b : Int) (tb : Tok) (u : Option Value) : Str → Option Value := mk [(Str.ofString "begin", some (.int b tb)), (Str.ofString "place", u), (Str.ofString "found", some (.ref l)), (Str.ofString "text", some (.str x tx))]
def splJ (x : Str) (tx : Tok) (l : Addr) (news : List (Addr × Obj)) : Jt := fun i m n => ∃ vs k b tb u, StrsAre vs (spl x i).1 ∧ b = (spl x i).2 ∧ n = (l, lst vs k) :: news ∧ m = splM x tx l b tb u
theorem splJ.intro {x : Str} {tx : Tok} {l : Addr} {news : List (Addr × Obj)} {i : Nat} {m : Str → Option Value} {vs : List Value} {k : Nat} {b : Int} {tb : Tok} {u : Option Value} (hs : StrsAre vs (spl x i).1) (hb : b = (spl x i).2) (hm : m = splM x tx l b tb u) : splJ x tx l news i m ((l, lst vs k) :: news) := ⟨_, _, _, _, _, hs, hb, rfl, hm⟩
theorem space_split_t {x : Str} {tx : Tok} (C : Cx w outer h₀ L env m s.heap news) (hx : x.length ≤ 1000)
    (hd : dp + 2 < recursionLimit) (hu : un + 16 < cLine)
    (ret : ∀ l vs n h' tk', (∀ p ∈ news, p.1 < l) → StrsAre vs (spl x (x.length + 1)).1 → Fr h₀ L h' m → News h₀ L h' ((l, lst vs n) :: news) → Q (.ref l) { s with heap := h', toks := tk' }) :
    wpAny (model prg w) (aT dp un gd env outer) (call (.ref 35) [.str x tx]) Q E s := by
  refine C.elim ?_; intro A₀ base mean mg mb B T F N X hf hk
  k_extra "FILL"
  k_extra "ENTER"
  replace F' := Fr.of_eq (mk_binds [(Str.ofString "text", .str x tx)]) F'
  k_steps
  refine goOn ?_
  rename Fr _ _ _ _ => F1
  rename News _ _ _ _ => N1
  rename IsRange _ _ _ _ _ _ _ _ => rg
  refine for_range_J (n := x.length + 1) (splJ x tx _ news) rfl rg (by omega) (by omega) F1 (news_sub N1 fun p hp => .tail _ hp) ⟨[], 0, 0, _, _, .nil, rfl, rfl, by k_extra "MAP"⟩ (goOn ?_) (goOn ?_)
  · intro I i ti m1 n1 it h1 tk1 hi hI hoff hJ F2 N2
    try k_fold
    refine E5_4 (hJ) ?_; (try clear hJ); intro vs kk b tb u hs hb hq1 hq2; obtain rfl := hq1; obtain rfl := hq2
    have hne := neN (hoff _ (.head _))
    dsimp only at hne
    have hof := fun p hp => hoff p (.tail _ hp)
    have hvs : vs.length ≤ 2000 := by rw [hs.len_eq]; have := spl_len x i; omega
    k_steps
    all_goals ((rename Fr _ _ _ _ => F3); (rename News _ _ _ _ => N3))
    all_goals refine JPost.fin _ F3 N3 (fun p hp => hp) (by k_extra "OFF") (splJ.intro ?_ ?_ (by k_extra "MAP"))
    all_goals first
      | (rw [spl_sp (by first | (left; omega) | (right; assumption)) (by omega)] <;> first | exact rfl | exact strs_append hs (by rw [← hb]; exact .cons _ _ .nil))
      | (rw [spl_sp' (by first | (left; omega) | (right; assumption)) (by omega)] <;> first | exact rfl | exact hs)
      | (rw [spl_no (by omega) (by assumption)] <;> first | exact hb | exact hs)
  · intro m1 n1 h1 tk1 hJ F2 N2
    try k_fold
    refine E5_4 (hJ) ?_; (try clear hJ); intro vs kk b tb u hs hb hq3 hq4; obtain rfl := hq3; obtain rfl := hq4
    k_steps
    exact ret _ _ _ _ _ (by assumption) hs (by k_asm) (by k_asm)
end

-- part p04_take.lean
section
variable (w : World) {dp un : Nat} {gd : Option (List Code)} {env : Env} {outer : List Env} {h₀ : Heap} {L : Addr} {m : Str → Option Value} {s : Shared} {Q E : Value → Shared → Prop} {news : List (Addr × Obj)}
theorem take_t0 {l : Addr} {x y top : Int} {tx ty tt : Tok} {n : Nat} (C : Cx w outer h₀ L env m s.heap ((l, lst [.int x tx, .int y ty] n) :: news))
    (hl : ∀ p ∈ news, p.1 ≠ l) (hx : 0 ≤ x) (hy : 0 ≤ y) (hy' : y < 2147483647) (ht : 0 < top) (ht' : top ≤ 6)
    (hd : dp + 1 < recursionLimit) (hu : un + 8 < cLine)
    (ret : ∀ (d x' y' : Int) (t1 t2 t3 : Tok) n' h' tk', 0 ≤ x' → 0 ≤ y' → y' < 2147483647 → 0 ≤ d → d < top → Fr h₀ L h' m → News h₀ L h' ((l, lst [.int x' t1, .int y' t2] n') :: news) → Q (.int d t3) { s with heap := h', toks := tk' }) :
    wpAny (model prg w) (aT dp un gd env outer) (call (.ref 463) [.ref l, .int top tt]) Q E s := by
  refine C.elim ?_; intro A₀ base mean mg mb B T F N X hf hk
  k_extra "FILL"
  k_extra "ENTER"
  replace F' := Fr.of_eq (mk_binds [(Str.ofString "top", .int top tt), (Str.ofString "source", .ref l)]) F'
  k_steps
  · exact ret (x.fmod top) (x.fdiv top) y _ _ _ _ _ _ (Int.fdiv_nonneg hx (by omega)) hy hy' (fmod_lo _ ht) (fmod_hi _ ht) (by k_asm) (by k_asm)
  · exact ret _ x ((y * 39373 + 7).fmod 2147483647) _ _ _ _ _ _ hx (fmod_lo _ (by decide)) (fmod_hi _ (by decide)) (fmod_lo _ ht) (fmod_hi _ ht) (by k_asm) (by k_asm)
/-- the source: a list of two ints that are not negative, the second below the modulus -/
structure Src (l : Addr) (n : Nat) (x y : Int) (tx ty : Tok) : Prop where
  hx : 0 ≤ x
  hy : 0 ≤ y
  hy' : y < 2147483647
abbrev src (x y : Int) (tx ty : Tok) (n : Nat) : Obj := lst [.int x tx, .int y ty] n
theorem take_t {l : Addr} {x y top : Int} {tx ty tt : Tok} {n : Nat} {g : Obj → List (Addr × Obj)} (C : Cx w outer h₀ L env m s.heap news) (U : UpdF l (src x y tx ty n) news g)
    (hx : 0 ≤ x ∧ 0 ≤ y ∧ y < 2147483647) (ht : 0 < top) (ht' : top ≤ 6)
    (hd : dp + 1 < recursionLimit) (hu : un + 8 < cLine)
    (ret : ∀ (d x' y' : Int) (t1 t2 t3 : Tok) n' h' tk', (0 ≤ x' ∧ 0 ≤ y' ∧ y' < 2147483647) → 0 ≤ d → d < top → Fr h₀ L h' m → News h₀ L h' (g (src x' y' t1 t2 n')) → Q (.int d t3) { s with heap := h', toks := tk' }) :
    wpAny (model prg w) (aT dp un gd env outer) (call (.ref 463) [.ref l, .int top tt]) Q E s := by
  refine E2_4 (U.split) ?_; intro pre post hq5 hg h1 h2; obtain rfl := hq5
  refine take_t0 w (news := pre ++ post) ⟨C.ex, C.F, news_sub C.N fun p hp => List.perm_middle.mem_iff.mpr hp, C.X, C.hf, C.hk⟩ (fun p hp => ?_) hx.1 hx.2.1 hx.2.2 ht ht' hd hu fun d x' y' t1 t2 t3 n' h' tk' a b c e f F' N' => ret d x' y' t1 t2 t3 n' h' tk' ⟨a, b, c⟩ e f F' (by rw [hg]; exact news_sub N' fun p hp => List.perm_middle.mem_iff.mp hp)
  · rcases List.mem_append.mp hp with h | h
    · exact h1 p h
    · exact h2 p h
theorem words5 : True := by
  k_with "W15" => (k_here; k_dflt (refine' take_t _ ?C ?U ?hx ?ht ?ht' ?hd ?hu ?_; (case C => exact Cx.mk' (by k_asm) (by k_asm) (by k_asm) (by k_asm) (by k_asm) rfl rfl); (case U => k_updF); (case hx => k_asm); (case ht => omega); (case ht' => omega); (case hd => ktr_room); (case hu => ktr_units); k_whole); (intro d x' y' t1 t2 t3 n' h' tk' hx' hd0 hd1 F' N'); (try dsimp only at N'); (try dsimp only))
  trivial
local macro_rules | `(tactic| walk_at "call ref") => `(tactic| k_extra "W15")

theorem one_t {l tl : Addr} {x y : Int} {tx ty : Tok} {n nt : Nat} {vs : List Value} {g : Obj → List (Addr × Obj)} (C : Cx w outer h₀ L env m s.heap news) (hm : (tl, lst vs nt) ∈ news) (U : UpdF l (src x y tx ty n) news g)
    (hg : ∀ o, (tl, lst vs nt) ∈ g o)
    (hx : 0 ≤ x ∧ 0 ≤ y ∧ y < 2147483647) (ht : 0 < vs.length) (ht' : vs.length ≤ 6)
    (hd : dp + 2 < recursionLimit) (hu : un + 16 < cLine)
    (ret : ∀ (v : Value) (x' y' : Int) (t1 t2 : Tok) n' h' tk', (0 ≤ x' ∧ 0 ≤ y' ∧ y' < 2147483647) → v ∈ vs → Fr h₀ L h' m → News h₀ L h' (g (src x' y' t1 t2 n')) → Q v { s with heap := h', toks := tk' }) :
    wpAny (model prg w) (aT dp un gd env outer) (call (.ref 470) [.ref l, .ref tl]) Q E s := by
  refine C.elim ?_; intro A₀ base mean mg mb B T F N X hf hk
  k_extra "FILL"
  k_extra "ENTER"
  replace F' := Fr.of_eq (mk_binds [(Str.ofString "things", .ref tl), (Str.ofString "source", .ref l)]) F'
  k_steps
  refine item_mem (by k_asm) (hg _) (by omega) (by omega) (List.getElem?_eq_getElem (by omega : d.toNat < vs.length)) ?_
  k_steps
  exact ret _ _ _ _ _ _ _ _ hx' (List.getElem_mem _) (by k_asm) (by k_asm)
end

-- part p05_value.lean
section
local macro_rules | `(tactic| walk_at "pyIter ref") => `(tactic| ((with_reducible show wpAny _ _ (pyIter (Value.ref _)) (fun it s₂ => LoopAtV _ _ _ _ _ _ _ _ _ it s₂) _ _); refine stopAt ?_))
local macro_rules | `(tactic| walk_at "exec For Name Call cons nil") => `(tactic| walk_at "FORINV")
local macro_rules | `(tactic| walk_at "exec For Name Name cons nil") => `(tactic| walk_at "FORINV")
local macro_rules | `(tactic| walk_at "exec For Name Subscript cons nil") => `(tactic| walk_at "FORINV")
local macro_rules | `(tactic| walk_at "exec For Name List cons nil") => `(tactic| walk_at "FORINV")
local macro_rules | `(tactic| walk_at "call ref") => `(tactic| k_extra "W13")

variable (w : World) {dp un : Nat} {gd : Option (List Code)} {env : Env} {outer : List Env} {h₀ : Heap} {L : Addr} {m : Str → Option Value} {s : Shared} {Q E : Value → Shared → Prop} {news : List (Addr × Obj)}
theorem words7 : True := by
  k_with "W16" => (k_here; k_dflt (refine' one_t _ ?C ?hm ?U ?hg ?hx ?ht ?ht' ?hd ?hu ?_; (case C => exact Cx.mk' (by k_asm) (by k_asm) (by k_asm) (by k_asm) (by k_asm) rfl rfl); (case hm => k_mem); (case U => k_updF); (case hg => (intro o; k_mem)); (case hx => k_asm); (case ht => (simp; done)); (case ht' => (simp; done)); (case hd => ktr_room); (case hu => ktr_units); k_whole); (intro v x' y' t1 t2 n' h' tk' hx' hv F' N'); (try dsimp only at N'); (try dsimp only))
  trivial
local macro_rules | `(tactic| walk_at "call ref") => `(tactic| k_extra "W16")

abbrev isW (x : Str) : Prop := x = Str.ofString "i" ∨ x = Str.ofString "j" ∨ x = Str.ofString "l"
abbrev isG (x : Str) : Prop := x = Str.ofString "" ∨ x = Str.ofString " " ∨ x = Str.ofString "\n "
theorem isW_len {x : Str} (h : isW x) : x.length = 1 := by rcases h with rfl | rfl | rfl <;> decide
theorem isG_len {x : Str} (h : isG x) : x.length ≤ 2 := by rcases h with rfl | rfl | rfl <;> decide
theorem ws_sum : ∀ {ws : List Str}, (∀ u ∈ ws, isW u) → (ws.map (·.length)).sum = ws.length
  | [], _ => rfl
  | u :: ws, h => by
    have e := ws_sum fun v hv => h v (.tail _ hv)
    simp only [List.map_cons, List.sum_cons, List.length_cons, isW_len (h u (.head _)), e]; omega
def gs3 : List Str := [Str.ofString "", Str.ofString " ", Str.ofString "\n "]
def w3 : List Str := [Str.ofString "i", Str.ofString "j", Str.ofString "l"]
def wl : List (List Str) := [[]] ++ w3.map (fun a => [a]) ++ w3.flatMap (fun a => w3.map fun b => [a, b]) ++ w3.flatMap (fun a => w3.flatMap fun b => w3.map fun c => [a, b, c])
theorem mem_w3 {x : Str} (h : isW x) : x ∈ w3 := by rcases h with rfl | rfl | rfl <;> simp [w3]
theorem mem_gs3 {x : Str} (h : isG x) : x ∈ gs3 := by rcases h with rfl | rfl | rfl <;> simp [gs3]
theorem mem_wl : ∀ {ws : List Str}, (∀ u ∈ ws, isW u) → ws.length ≤ 3 → ws ∈ wl
  | [], _, _ => by simp [wl]
  | [a], h, _ => by
    have ha := mem_w3 (h a (by simp))
    simp only [wl, List.mem_append, List.mem_map]
    exact .inl (.inl (.inr ⟨a, ha, rfl⟩))
  | [a, b], h, _ => by
    have ha := mem_w3 (h a (by simp))
    have hb := mem_w3 (h b (by simp))
    simp only [wl, List.mem_append, List.mem_flatMap, List.mem_map]
    exact .inl (.inr ⟨a, ha, b, hb, rfl⟩)
  | [a, b, c], h, _ => by
    have ha := mem_w3 (h a (by simp))
    have hb := mem_w3 (h b (by simp))
    have hc := mem_w3 (h c (by simp))
    simp only [wl, List.mem_append, List.mem_flatMap, List.mem_map]
    exact .inr ⟨a, ha, b, hb, c, hc, rfl⟩
  | _ :: _ :: _ :: _ :: _, _, h => by simp at h
noncomputable abbrev valOf (sp : Str) (ws : List Str) : Str := sp ++ Txt.join (Str.ofString " ") ws ++ sp
noncomputable def valOk (sp : Str) (ws : List Str) : Bool := decide ((spl (valOf sp ws) ((valOf sp ws).length + 1)).1 = ws) && decide ((valOf sp ws).length ≤ 20) && decide ((Txt.join (Str.ofString " ") ws).length ≤ 10)
theorem val_all : (gs3.all fun sp => wl.all fun ws => valOk sp ws) = true := by decide +kernel
theorem val_ok {sp : Str} {ws : List Str} (hg : isG sp) (hw : ∀ u ∈ ws, isW u) (hl : ws.length ≤ 3) : (spl (valOf sp ws) ((valOf sp ws).length + 1)).1 = ws ∧ (valOf sp ws).length ≤ 20 ∧ (Txt.join (Str.ofString " ") ws).length ≤ 10 := by
  have h := List.all_eq_true.mp (List.all_eq_true.mp val_all sp (mem_gs3 hg)) ws (mem_wl hw hl)
  simp only [valOk, Bool.and_eq_true, decide_eq_true_eq] at h
  exact ⟨h.1.1, h.1.2, h.2⟩
def valJ (C : Addr) (oc : Obj) (l : Addr) (news : List (Addr × Obj)) : Jc := fun i ys n => ∃ ws x y t1 t2 k, StrsAre ys ws ∧ ws.length = i ∧ (∀ u ∈ ws, isW u) ∧ (0 ≤ x ∧ 0 ≤ y ∧ y < 2147483647) ∧ n = (C, oc) :: (l, src x y t1 t2 k) :: news
theorem lvalue_t {l : Addr} {x y : Int} {tx ty : Tok} {n : Nat} (C : Cx w outer h₀ L env m s.heap ((l, src x y tx ty n) :: news)) (hl : ∀ p ∈ news, p.1 ≠ l)
    (hx : 0 ≤ x ∧ 0 ≤ y ∧ y < 2147483647)
    (hd : dp + 3 < recursionLimit) (hu : un + 24 < cLine)
    (ret : ∀ (lv D : Addr) (sp : Str) (ws : List Str) (ys : List Value) (x' y' : Int) (t1 t2 t3 : Tok) n1 n2 n' h' tk', (0 ≤ x' ∧ 0 ≤ y' ∧ y' < 2147483647) → isG sp → (∀ u ∈ ws, isW u) → ws.length ≤ 3 → StrsAre ys ws → @Ne Nat l D → (∀ p ∈ news, p.1 ≠ D) → (@LT.lt Nat _ l lv ∧ @LT.lt Nat _ D lv ∧ ∀ p ∈ news, p.1 < lv) → Fr h₀ L h' m →
      News h₀ L h' ((lv, lst [.str (valOf sp ws) t3, .ref D] n1) :: (D, lst ys n2) :: (l, src x' y' t1 t2 n') :: news) → Q (.ref lv) { s with heap := h', toks := tk' }) :
    wpAny (model prg w) (aT dp un gd env outer) (call (.ref 482) [.ref l]) Q E s := by
  refine C.elim ?_; intro A₀ base mean mg mb B T F N X hf hk
  k_extra "FILL"
  k_extra "ENTERC"
  replace F' : Fr g' L' h' (mk []) := Fr.of_eq (funext fun _ => rfl) F'
  k_steps
  obtain ⟨k, tk, rfl, hk0, hk3⟩ : ∃ k t, v = Value.int k t ∧ 0 ≤ k ∧ k ≤ 3 := by
    simp only [List.mem_cons, List.not_mem_nil, or_false] at hv
    rcases hv with e | e | e | e | e | e <;> exact ⟨_, _, e, by omega, by omega⟩
  k_steps
  refine goOn ?_
  rename Fr _ _ _ _ => F1
  rename News _ _ _ _ => N1
  rename IsRange _ _ _ _ _ _ _ _ => rg
  refine comp_range_J (n := k.toNat) (valJ _ _ l news) rfl F1 (news_sub N1 fun p hp => .tail _ hp) rg (by omega) (by omega) ⟨[], _, _, _, _, _, .nil, rfl, (fun _ h => nomatch h), hx', rfl⟩ (goOn ?_) (goOn ?_)
  · intro s1 i ys n1 v I oI C oC D m2 h1 tk1 E1 hi hv hJ hC hx1 F2 N2 hoff hne
    try k_fold
    refine E6_5 (hJ) ?_; (try clear hJ); intro ws x1 y1 t3 t4 k1 hs hlen hw hxy hq6; obtain rfl := hq6
    obtain ⟨t5, rfl⟩ := hv
    k_extra "OFF3"
    k_steps
    obtain ⟨u, tu, rfl, hu⟩ : ∃ u t, v = Value.str u t ∧ isW u := by
      simp only [List.mem_cons, List.not_mem_nil, or_false] at hv
      rcases hv with e | e | e | e
      · exact ⟨_, _, e, .inl rfl⟩
      · exact ⟨_, _, e, .inl rfl⟩
      · exact ⟨_, _, e, .inr (.inl rfl)⟩
      · exact ⟨_, _, e, .inr (.inr rfl)⟩
    refine CEnd.fin _ F' N' (fun p hp => .tail _ hp) (fun p hp => ?_) trivial ⟨ws ++ [u], x', y', t1, t2, n', strs_append hs (.cons _ _ .nil), by simp [hlen], fun z hz => ?_, hx', rfl⟩
    · rcases List.mem_cons.mp hp with e | hp
      · subst e; exact hoff _ (.head _)
      · rcases List.mem_cons.mp hp with e | hp
        · subst e; exact hoff (l, src x1 y1 t3 t4 k1) (.tail _ (.head _))
        · exact hoff _ (.tail _ (.tail _ hp))
    · rcases List.mem_append.mp hz with h | h
      · exact hw z h
      · rw [List.mem_singleton.mp h]; exact hu
  · intro g ys n1 hJ
    refine E6_5 (hJ) ?_; (try clear hJ); intro ws x1 y1 t3 t4 k1 hs hlen hw hxy hq7; obtain rfl := hq7
    k_steps
    obtain ⟨sp, tsp, rfl, hsp⟩ : ∃ u t, v = Value.str u t ∧ isG u := by
      simp only [List.mem_cons, List.not_mem_nil, or_false] at hv
      rcases hv with e | e | e
      · exact ⟨_, _, e, .inl rfl⟩
      · exact ⟨_, _, e, .inr (.inl rfl)⟩
      · exact ⟨_, _, e, .inr (.inr rfl)⟩
    refine join_listW (isList_mem (by k_asm) (n := ys.length) (by k_mem)) (by simpa using hs) (by decide) (by rw [ws_sum hw]; omega) ?_
    intro tj kj
    have hjl := (val_ok hsp hw (by omega)).2.2
    have hgl := isG_len hsp
    k_steps
    refine' ret _ _ sp ws ys x' y' _ _ _ _ _ _ _ _ hx' hsp hw (by omega) hs ?a ?b ?c ?F (news_sub ?N ?S)
    case F => k_asm
    case N => k_asm
    case S => k_extra "SUB"
    case a => omega
    case b => exact off1_out (by simp_all)
    case c => exact ⟨by omega, by omega, allLt_out (by simp_all)⟩
end

-- part p06_dict.lean
section
open PySem.Calls PyProof.V PySem.Spec
section
variable {w : World} {A : Around} {E : Value → Shared → Prop} {s : Shared} {h₀ : Heap} {L d : Addr} {m : Str → Option Value} {news : List (Addr × Obj)} {g : Obj → List (Addr × Obj)} {o : Obj} {Q : Value → Shared → Prop} {kvs : List (Str × Value)} {k : Str} {v dflt : Value} {t : Tok}
theorem ltNe {a b : Addr} {o : Obj} {news : List (Addr × Obj)} (h : ∀ p ∈ news, p.1 < b) (hm : (a, o) ∈ news) : b ≠ a := fun e => absurd (h _ hm) (by subst e; exact Nat.lt_irrefl _)
theorem ltNe' {a b : Addr} {o : Obj} {news : List (Addr × Obj)} (h : AllLt b news) (hm : (a, o) ∈ news) : b ≠ a := ltNe (allLt_out h) hm
theorem updF_ne {a b : Addr} {o : Obj} {news : List (Addr × Obj)} {g : Obj → List (Addr × Obj)} (U : UpdF a o news g) (h : ∀ p ∈ news, p.1 < b) (o' : Obj) : ∀ p ∈ g o', p.1 ≠ b := by
  refine E2_4 (U.split) ?_; intro pre post hq8 hg _ _; obtain rfl := hq8
  intro p hp
  rw [hg] at hp
  rcases List.mem_append.mp hp with hp | hp
  · exact Nat.ne_of_lt (h p (List.mem_append_left _ hp))
  · rcases List.mem_cons.mp hp with rfl | hp
    · exact Nat.ne_of_lt (h (a, o) (List.mem_append_right _ (.head _)))
    · exact Nat.ne_of_lt (h p (List.mem_append_right _ (.tail _ hp)))
theorem dmade {vs : List (Value × Value)} (F : Fr h₀ L s.heap m) (N : News h₀ L s.heap news) (U : UpdF d o news g) (hd : o.IsDictOf (PySem.strKind prg w) []) (hk : allStrKeys vs = true) (hn : ((strPairs vs).map (·.1)).Nodup)
    (h : ∀ h' o' tk', Fr h₀ L h' m → News h₀ L h' (g o') → o'.IsDictOf (PySem.strKind prg w) (strPairs vs) → Q (.ref d) { s with heap := h', toks := tk' }) : KdnMade prg w (PySem.strKind prg w) d Q vs s :=
  kdn_made_str F N U hd hk hn fun h' o' F' N' d => h h' o' _ F' N' d
theorem dset {Q : Unit → Shared → Prop} (F : Fr h₀ L s.heap m) (N : News h₀ L s.heap news) (U : UpdF d o news g) (hd : o.IsDictOf (PySem.strKind prg w) kvs) (hsz : kvs.length ≤ 1000)
    (h : ∀ h' o' tk', Fr h₀ L h' m → News h₀ L h' (g o') → o'.IsDictOf (PySem.strKind prg w) (stored kvs k v) → Q () { s with heap := h', toks := tk' }) : wpAny (model prg w) A (setItem (.ref d) (.str k t) v) Q E s :=
  kda_set F N U hd (strKind_is _ _ _ _) (by rw [sizeLine_eq]; omega) fun h' o' F' N' d => h h' o' _ F' N' d
theorem ditem {value slice : PySem.Expr} (N : News h₀ L s.heap news) (hp : (d, o) ∈ news) (hd : o.IsDictOf (PySem.strKind prg w) kvs) (hl : valueAt kvs k = some v) (h : ∀ tk', Q v { s with toks := tk' })
    (hs : subscripted slice false (.ref d) (.str k t) = operate [.ref d, .str k t] (getItem (.ref d) (.str k t)) := by with_unfolding_all rfl) : wpAny (model prg w) A (subscriptTail value slice (.ref d) (.str k t)) Q E s :=
  kdt_tail (knd := PySem.strKind _ _) N hp hd (kdt_getItem N hp hd (strKind_is _ _ _ _) hl (h _)) hs
theorem dget {ov : Option Value} (N : News h₀ L s.heap news) (hp : (d, o) ∈ news) (hd : o.IsDictOf (PySem.strKind prg w) kvs) (lo : (d == sysModules) = false) (e : valueAt kvs k = ov) (h : ∀ tk', Q (ov.getD .none) { s with toks := tk' }) :
    wpAny (model prg w) A (call (.builtin "dict.get") [.ref d, .str k t]) Q E s := kdg_get1 N hp hd lo (strKind_is _ _ _ _) _ e (h _)
theorem dget2 {ov : Option Value} (N : News h₀ L s.heap news) (hp : (d, o) ∈ news) (hd : o.IsDictOf (PySem.strKind prg w) kvs) (lo : (d == sysModules) = false) (e : valueAt kvs k = ov) (h : ∀ tk', Q (ov.getD dflt) { s with toks := tk' }) :
    wpAny (model prg w) A (call (.builtin "dict.get") [.ref d, .str k t, dflt]) Q E s := kdg_get2 N hp hd lo (strKind_is _ _ _ _) _ e (h _)
theorem dmeth {pl : Sem Bool} {Q : Value × List Value → Shared → Prop} (N : News h₀ L s.heap news) (hp : (d, o) ∈ news) (hd : o.IsDictOf (PySem.strKind prg w) kvs) (h : Q (.builtin "dict.get", [.ref d]) s) : wpAny (model prg w) A (getMethod (.ref d) "get" pl) Q E s :=
  kdg_method N hp hd h
theorem dnotin {ov : Option Value} (N : News h₀ L s.heap news) (hp : (d, o) ∈ news) (hd : o.IsDictOf (PySem.strKind prg w) kvs) (lo : (d == sysModules) = false) (e : valueAt kvs k = ov) (h : ∀ tk', Q (.bool (!ov.isSome)) { s with toks := tk' }) :
    wpAny (model prg w) A (compareOp .NotIn (.str k t) (.ref d)) Q E s := kdg_notin N hp hd lo (strKind_is _ _ _ _) _ (by rw [e]) (h _)
theorem din {ov : Option Value} (N : News h₀ L s.heap news) (hp : (d, o) ∈ news) (hd : o.IsDictOf (PySem.strKind prg w) kvs) (lo : (d == sysModules) = false) (e : valueAt kvs k = ov) (h : ∀ tk', Q (.bool ov.isSome) { s with toks := tk' }) :
    wpAny (model prg w) A (compareOp .In (.str k t) (.ref d)) Q E s := kda_in N hp hd lo (strKind_is _ _ _ _) _ (by rw [e]) (h _)
end
section
variable {w : World} {A : Around} {E : Value → Shared → Prop} {s : Shared} {env : Env} {h₀ : Heap} {x : Str} {body : List Stmt} {Q : Flow → Shared → Prop}
theorem iter_dict {d : Addr} {od : Obj} {kvs : List (Str × Value)} {m₀ : Str → Option Value} {news : List (Addr × Obj)} (P : Addr → Jt)
    (hh : A.handled = none) (F : Fr h₀ env.locals s.heap m₀) (N : News h₀ env.locals s.heap news) (hm : (d, od) ∈ news) (hd : od.IsDictOf (PySem.strKind prg w) kvs) (lo : (d == sysModules) = false) (h0 : ∀ I, (∀ p ∈ news, p.1 < I) → P I 0 m₀ news)
    (turn : (∀ I i k v t m₁ news₁ it h tk, kvs[i]? = some (k, v) → (∀ p ∈ news, p.1 < I) → (∀ p ∈ news₁, p.1 ≠ I) → (d, od) ∈ news₁ → P I i m₁ news₁ → it.cls = .type "dict_keyiterator" → Fr h₀ env.locals h (fun y => if y = x then some (.str k t) else m₁ y) → News h₀ env.locals h ((I, it) :: news₁) →
      wpAny (model prg w) A (execs body env) (JPost h₀ env.locals { s with heap := h, toks := tk } I it (fun m' n' => (d, od) ∈ n' ∧ P I (i + 1) m' n') Q) E { s with heap := h, toks := tk }))
    (done : (∀ I m₁ news₁ h tk, (d, od) ∈ news₁ → P I kvs.length m₁ news₁ → Fr h₀ env.locals h m₁ → News h₀ env.locals h news₁ → Q .next { s with heap := h, toks := tk })) :
    wpAny (model prg w) A (pyIter (.ref d)) (fun it s₂ => LoopAtV prg w A h₀ env x body Q E it s₂) E s := by
  have hax := N _ hm
  obtain ⟨ep, ha⟩ := KdkAt.of hd
  have hat := ha.dictAt hax.1
  have hne : d ≠ s.heap.objs.size := Nat.ne_of_lt (Heap.lt_size hax.1)
  refine wpAny_pyIter_dict lo hat ?_
  have W := Walks.dictKeys (prog := prg) (w := w) (knd := PySem.strKind prg w) hh s.heap.objs.size d hne kvs ep
  have hnew := next_is_new F
  have hlt : ∀ p ∈ news, p.1 < s.heap.objs.size := fun p hp => Heap.lt_size (N p hp).1
  let J : Nat → (Str → Option Value) → List (Addr × Obj) → Prop := fun i m₁ news₁ => (d, od) ∈ news₁ ∧ P s.heap.objs.size i m₁ news₁
  refine ⟨_, _, _, kvs.length, _, _, m₀, news, J, rfl, W, ?_, ?_, ?_, ⟨⟨_, Heap.get?_push_size _ rfl, rfl, rfl⟩, hat.push _⟩, F.push _, (fun p hp => ⟨Heap.get?_push_of_some _ (N p hp).1, (N p hp).2⟩), ⟨hm, h0 _ hlt⟩, ?_, ?_⟩
  · intro hmm
    rcases List.mem_cons.mp hmm with e | hmm
    · exact absurd F.ns.lt (e ▸ Nat.lt_irrefl _)
    · exact hax.2.1 (List.mem_singleton.mp hmm).symm
  · intro b hb
    rw [List.mem_singleton.mp hb]
    exact hnew
  · intro p hp hI
    exact absurd (hlt p hp) ((List.mem_singleton.mp hI) ▸ Nat.lt_irrefl _)
  · rintro i v m₁ news₁ s₁ own ⟨hh', tk', rfl⟩ hin ⟨k, u, hx, hk⟩ ⟨hmem₁, hJ⟩ hoff hown hget hall hst F₁ N₁
    obtain ⟨t, rfl⟩ := PySem.Value.isStrOf_shape hk
    refine E1_3 (hst.1) ?_; intro it hit hic hid
    have hmemI := hall s.heap.objs.size (List.mem_cons_self ..) hnew _ hit
    have N₂ : News h₀ env.locals hh' ((s.heap.objs.size, it) :: news₁) := fun p hp => by
      rcases List.mem_cons.mp hp with rfl | hp
      · exact N₁ _ (List.mem_append_left _ hmemI)
      · exact N₁ _ (List.mem_append_right _ hp)
    refine wpAny_mono (turn s.heap.objs.size i k u t m₁ news₁ it hh' tk' hx hlt (fun p hp e => hoff p hp (e ▸ List.mem_singleton.mpr rfl)) hmem₁ hJ hic F₁ N₂) (fun f s₂ p => ?_) fun _ _ e => e
    have fin : UnrEnd h₀ env.locals { s with heap := hh', toks := tk' } s.heap.objs.size it (J (i + 1)) s₂ →
        LoopStepU h₀ env.locals [s.heap.objs.size] own (J (i + 1)) { s with heap := hh', toks := tk' } .next s₂ := by
      rintro ⟨h', tk, m', news', e, F', N', ho, hmm, r⟩
      refine ⟨rfl, h', tk, m', news', e, F', fun p hp => ?_, fun p hp hI => ho p hp (List.mem_singleton.mp hI), hmm, r⟩
      rcases List.mem_append.mp hp with hp | hp
      · have h2 : hh'.get? p.1 = some p.2 := hget p hp
        rcases List.mem_cons.mp (hown p hp) with h1 | h1
        · have h3 : p = (s.heap.objs.size, it) := by
            rw [h1, hit] at h2
            exact Prod.ext h1 (Option.some.inj h2).symm
          rw [h3]; exact N' _ (List.mem_cons_self ..)
        · have h1' : p.1 = d := List.mem_singleton.mp h1
          have h3 : p = (d, od) := by
            rw [h1', (N₁ _ (List.mem_append_right _ hmem₁)).1] at h2
            exact Prod.ext h1' (Option.some.inj h2).symm
          rw [h3]; exact N' _ (List.mem_cons_of_mem _ hmm)
      · exact N' _ (List.mem_cons_of_mem _ hp)
    cases f with
    | ret v => exact .ret p
    | brk => exact .brk p
    | next => exact .next (fin p)
    | cont => exact .cont (fin p)
  · rintro h' tk m' news' F' N' _ ⟨hm', hJ⟩
    exact done _ m' news' h' tk hm' hJ F' N'
theorem for_dict_J {d : Addr} {od : Obj} {kvs : List (Str × Value)} {m₀ : Str → Option Value} {news : List (Addr × Obj)} (P : Jt)
    (hh : A.handled = none) (F : Fr h₀ env.locals s.heap m₀) (N : News h₀ env.locals s.heap news) (hm : (d, od) ∈ news) (hd : od.IsDictOf (PySem.strKind prg w) kvs) (lo : (d == sysModules) = false) (h0 : P 0 m₀ news)
    (turn : Later (∀ I i k v t m₁ news₁ it h tk, kvs[i]? = some (k, v) → (∀ p ∈ news, p.1 < I) → (∀ p ∈ news₁, p.1 ≠ I) → (d, od) ∈ news₁ → P i m₁ news₁ → it.cls = .type "dict_keyiterator" → Fr h₀ env.locals h (fun y => if y = x then some (.str k t) else m₁ y) → News h₀ env.locals h ((I, it) :: news₁) →
      wpAny (model prg w) A (execs body env) (JPost h₀ env.locals { s with heap := h, toks := tk } I it (fun m' n' => (d, od) ∈ n' ∧ P (i + 1) m' n') Q) E { s with heap := h, toks := tk }))
    (done : Later (∀ m₁ news₁ h tk, (d, od) ∈ news₁ → P kvs.length m₁ news₁ → Fr h₀ env.locals h m₁ → News h₀ env.locals h news₁ → Q .next { s with heap := h, toks := tk })) :
    wpAny (model prg w) A (pyIter (.ref d)) (fun it s₂ => LoopAtV prg w A h₀ env x body Q E it s₂) E s :=
  iter_dict (fun _ => P) hh F N hm hd lo (fun _ _ => h0) turn fun _ => done
def DRest (w : World) (A : Around) (E : Value → Shared → Prop) (h₀ : Heap) (env : Env) (x : Str) (body : List Stmt) (Q : Flow → Shared → Prop) (s : Shared) (I : Addr) (dp : Addr × Obj) : List (Str × Value) → (Str → Option Value) → List (Addr × Obj) → Prop
  | [], m, news => ∀ h tk, Fr h₀ env.locals h m → News h₀ env.locals h news → Q .next { s with heap := h, toks := tk }
  | p :: r, m, news => ∀ (it : Obj) t h tk, it.cls = .type "dict_keyiterator" → Fr h₀ env.locals h (fun y => if y = x then some (.str p.1 t) else m y) → News h₀ env.locals h ((I, it) :: news) →
      wpAny (model prg w) A (execs body env) (UnrPost h₀ env.locals { s with heap := h, toks := tk } I it (fun m' n' => dp ∈ n' ∧ DRest w A E h₀ env x body Q s I dp r m' n') Q) E { s with heap := h, toks := tk }
theorem DRest.zero {I : Addr} {dp : Addr × Obj} {m : Str → Option Value} {news : List (Addr × Obj)} (h : ∀ h tk, Fr h₀ env.locals h m → News h₀ env.locals h news → Q .next { s with heap := h, toks := tk }) :
    DRest w A E h₀ env x body Q s I dp [] m news := h
theorem DRest.succ {I : Addr} {dp : Addr × Obj} {k : Str} {v : Value} {r : List (Str × Value)} {m : Str → Option Value} {news : List (Addr × Obj)}
    (h : ∀ (it : Obj) t h tk, it.cls = .type "dict_keyiterator" → Fr h₀ env.locals h (fun y => if y = x then some (.str k t) else m y) → News h₀ env.locals h ((I, it) :: news) →
      wpAny (model prg w) A (execs body env) (UnrPost h₀ env.locals { s with heap := h, toks := tk } I it (fun m' n' => dp ∈ n' ∧ DRest w A E h₀ env x body Q s I dp r m' n') Q) E { s with heap := h, toks := tk }) :
    DRest w A E h₀ env x body Q s I dp ((k, v) :: r) m news := h
theorem for_dict_U {d : Addr} {od : Obj} {kvs : List (Str × Value)} {m₀ : Str → Option Value} {news : List (Addr × Obj)}
    (hh : A.handled = none) (F : Fr h₀ env.locals s.heap m₀) (N : News h₀ env.locals s.heap news) (hm : (d, od) ∈ news) (hd : od.IsDictOf (PySem.strKind prg w) kvs) (lo : (d == sysModules) = false)
    (rest : ∀ I, (∀ p ∈ news, p.1 < I) → DRest w A E h₀ env x body Q s I (d, od) kvs m₀ news) :
    wpAny (model prg w) A (pyIter (.ref d)) (fun it s₂ => LoopAtV prg w A h₀ env x body Q E it s₂) E s := by
  refine iter_dict (fun I i m₁ news₁ => DRest w A E h₀ env x body Q s I (d, od) (kvs.drop i) m₁ news₁) hh F N hm hd lo (fun I hI => by rw [List.drop_zero]; exact rest I hI) ?_ ?_
  · intro I i k v t m₁ news₁ it h tk hx _ _ hmm hP hc F₁ N₁
    have hlt : i < kvs.length := by
      rcases Nat.lt_or_ge i kvs.length with h | h
      · exact h
      · rw [List.getElem?_eq_none h] at hx; cases hx
    have hd' : kvs.drop i = (k, v) :: kvs.drop (i + 1) := by
      rw [List.drop_eq_getElem_cons hlt]
      congr 1
      exact Option.some.inj ((List.getElem?_eq_getElem hlt).symm.trans hx)

    rw [hd'] at hP
    exact hP it t h tk hc F₁ N₁
  · intro I m₁ news₁ h tk _ hP F₁ N₁

    rw [List.drop_length] at hP
    exact hP h tk F₁ N₁
def Offs (I : Addr) : List (Addr × Obj) → Prop
  | [] => True
  | p :: r => @Ne Nat p.1 I ∧ Offs I r
theorem Offs.mem {I : Addr} : ∀ {l : List (Addr × Obj)}, Offs I l → ∀ p ∈ l, p.1 ≠ I
  | [], _ => fun _ h => nomatch h
  | p :: l, h => fun q hq => by
    rcases List.mem_cons.mp hq with rfl | hq
    · exact h.1
    · exact Offs.mem h.2 q hq
theorem Offs.of {I : Addr} : ∀ {l : List (Addr × Obj)}, (∀ p ∈ l, p.1 ≠ I) → Offs I l
  | [], _ => trivial
  | p :: l, h => ⟨h p (.head _), Offs.of fun q hq => h q (.tail _ hq)⟩
theorem Offs.nil {I : Addr} : Offs I [] := trivial
theorem Offs.cons {I : Addr} {p : Addr × Obj} {r : List (Addr × Obj)} (a : @Ne Nat p.1 I) (b : Offs I r) : Offs I (p :: r) := ⟨a, b⟩
inductive DropI (I : Addr) (it : Obj) : List (Addr × Obj) → List (Addr × Obj) → Prop
  | here {r} : Offs I r → DropI I it ((I, it) :: r) r
  | keep {p r r'} : @Ne Nat p.1 I → DropI I it r r' → DropI I it (p :: r) (p :: r')
theorem DropI.facts {I : Addr} {it : Obj} : ∀ {l l' : List (Addr × Obj)}, DropI I it l l' → (∀ p ∈ (I, it) :: l', p ∈ l) ∧ ∀ p ∈ l', p.1 ≠ I
  | _, _, .here h => ⟨fun _ hp => hp, h.mem⟩
  | _, _, .keep (p := p) h d => by
    obtain ⟨a, b⟩ := d.facts
    refine ⟨fun q hq => ?_, fun q hq => ?_⟩
    · rcases List.mem_cons.mp hq with rfl | hq
      · exact .tail _ (a _ (.head _))
      · rcases List.mem_cons.mp hq with rfl | hq
        · exact .head _
        · exact .tail _ (a _ (.tail _ hq))
    · rcases List.mem_cons.mp hq with rfl | hq
      · exact h
      · exact b q hq
theorem unrEnd_drop {L I : Addr} {it : Obj} {rest : (Str → Option Value) → List (Addr × Obj) → Prop} {s₁ : Shared} {h' : Heap} {tk : Nat} {m' : Str → Option Value} {all news' : List (Addr × Obj)} (F : Fr h₀ L h' m') (N : News h₀ L h' all) (d : DropI I it all news')
    (r : rest m' news') : UnrEnd h₀ L s₁ I it rest { s₁ with heap := h', toks := tk } := UnrEnd.intro F N news' d.facts.1 d.facts.2 r
end
end
section
variable (w : World) {dp un : Nat} {gd : Option (List Code)} {env : Env} {outer : List Env} {h₀ : Heap} {L : Addr} {m : Str → Option Value} {s : Shared} {Q E : Value → Shared → Prop} {news : List (Addr × Obj)}
theorem dtd_t {x : Str} {tx : Tok} (C : Cx w outer h₀ L env m s.heap news)
    (hd : dp + 3 < recursionLimit) (hu : un + 24 < cLine)
    (ret : ∀ (x d a e n : Addr) k1 k2 k3 k4 (rt : Value) oA oE oN h' tk', (∀ p ∈ news, p.1 < d) → (∀ p ∈ news, p.1 < a) → (@LT.lt Nat _ d x ∧ @LT.lt Nat _ x e ∧ @LT.lt Nat _ e a ∧ @LT.lt Nat _ a n) → (a == sysModules) = false → oA.IsDictOf (PySem.strKind prg w) [] → Fr h₀ L h' m →
      News h₀ L h' ((n, oN) :: (a, oA) :: (e, oE) :: (x, instObj 234 d) :: (d, dictOf [ent w.params "root" k1 rt, ent w.params "elements" k2 (.ref e), ent w.params "attributes" k3 (.ref a), ent w.params "notations" k4 (.ref n)] 4) :: news) → Q (.ref x) { s with heap := h', toks := tk' }) :
    wpAny (model prg w) (aT dp un gd env outer) (call (.ref 234) [.str x tx]) Q E s := by
  refine C.elim ?_; intro A₀ base mean mg mb B T F N X hf hk
  k_extra "FILL"
  k_extra "CLS"
  replace F' := Fr.of_eq (mk_binds [(Str.ofString "root", .str x tx), (Str.ofString "self", .ref x')]) F'
  k_steps
  refine' ret x' d' _ _ _ _ _ _ _ _ _ _ _ _ _ l1 ?la ⟨l2, ?a1, ?a2, ?a3⟩ ?b ?o ?F ?N
  case N => k_asm
  case la => exact fun p hp => Nat.lt_of_lt_of_le (l1 p hp) (by omega)
  case F => k_asm
  case a1 => omega
  case a2 => omega
  case a3 => omega
  case b => assumption
  case o => assumption
theorem tuple_mem {h : Heap} {ta : Addr} {items : Array Value} {n : Nat} {news : List (Addr × Obj)} (N : News h₀ L h news) (hm : (ta, { cls := .type "tuple", data := .seq items n }) ∈ news) : h.IsTuple ta items := ⟨_, (N _ hm).1, rfl, _, rfl⟩
theorem words8 : True := by
  k_with "W17" => (k_here; refine' call_tuple_same (tuple_mem ?Nw9 ?mw9) ?_; (case Nw9 => k_asm); (case mw9 => k_mem))
  trivial
local macro_rules | `(tactic| walk_at "call type:tuple") => `(tactic| k_extra "W17")

theorem rule_t {x : Str} {tx ti : Tok} {ta : Addr} {nt : Nat} (C : Cx w outer h₀ L env m s.heap news) (ht : (ta, { cls := .type "tuple", data := .seq #[] nt }) ∈ news)
    (hd : dp + 3 < recursionLimit) (hu : un + 24 < cLine)
    (ret : ∀ (x' d : Addr) k1 k2 k3 k4 (v2 v3 v4 : Value) h' tk', (∀ p ∈ news, p.1 < d) → @LT.lt Nat _ d x' → Fr h₀ L h' m →
      News h₀ L h' ((x', instObj 106 d) :: (d, dictOf [ent w.params "kind" k1 (.str x tx), ent w.params "choices" k2 v2, ent w.params "mode" k3 v3, ent w.params "value" k4 v4] 4) :: news) → Q (.ref x') { s with heap := h', toks := tk' }) :
    wpAny (model prg w) (aT dp un gd env outer) (call (.ref 106) [.str x tx, .ref ta, .str (Str.ofString "implied") ti, .none]) Q E s := by
  refine C.elim ?_; intro A₀ base mean mg mb B T F N X hf hk
  k_extra "FILL"
  k_extra "CLS"
  replace F' := Fr.of_eq (mk_binds [(Str.ofString "value", .none), (Str.ofString "mode", .str (Str.ofString "implied") ti), (Str.ofString "choices", .ref ta), (Str.ofString "kind", .str x tx), (Str.ofString "self", .ref x')]) F'
  k_steps
  exact ret x' d' _ _ _ _ _ _ _ _ _ l1 l2 (by k_asm) (by k_asm)
end

theorem words9 : True := by
  k_with "W18" => exact updF_ne (by with_reducible assumption) (by assumption) _
  k_with "W19" => first | exact Nat.ne_of_lt (by assumption) | exact Nat.ne_of_gt (by assumption) | exact Ne.symm (by assumption) | (refine neN ?_; (try dsimp only); omega) | exact ltNe (by assumption) (by assumption) | exact ltNe' (by assumption) (by assumption)
  k_with "DSIZE" => first | omega | decide | (simp only [List.length_cons, List.length_nil]; omega)
  k_with "DVAL" => first | with_reducible assumption | rfl
  k_with "W20" => (k_here; (try dsimp only); (with_reducible show wpAny _ _ (setItem (Value.ref _) (Value.str _ _) _) _ _ _); k_dflt (refine' dset ?Fw9 ?Nw9 ?Uw9 ?dw9 ?zw9 ?_; (case Fw9 => k_asm); (case Nw9 => k_asm); (case Uw9 => k_updF); (case dw9 => k_asm); (case zw9 => k_extra "DSIZE")))
  k_with "W21" => (k_here; k_dflt (refine' kdn_str ?qw9 ?Fw9 ?Nw9 ?bw9 ?aw9 ?lw9 ?ew9 ?nw9 ?_; (case qw9 => rfl); (case Fw9 => k_asm); (case Nw9 => first | k_asm | exact News.nil); (case bw9 => exact Top.nolimit (by k_asm)); (case aw9 => rfl); (case lw9 => rfl); (case ew9 => exact List.cons_ne_nil _ _); (case nw9 => exact Nat.le_of_ble_eq_true rfl)))
  k_with "W22" => (k_here; (with_reducible show wpAny _ _ (getMethod (Value.ref _) (Str.ofString "get") _) _ _ _); k_dflt (refine' dmeth ?Nw9 ?mw9 ?dw9 ?_; (case Nw9 => k_asm); (case mw9 => k_mem); (case dw9 => k_asm)))
  k_with "W23" => (k_here; (try dsimp only); k_dflt (first | refine' dget ?Nw9 ?mw9 ?dw9 ?low9 ?ew9 ?_ | refine' dget2 ?Nw9 ?mw9 ?dw9 ?low9 ?ew9 ?_); (case Nw9 => k_asm); (case mw9 => k_mem); (case dw9 => k_asm); (case low9 => k_asm); (case ew9 => k_extra "DVAL"))
  k_with "W24" => (k_here; (try dsimp only); k_dflt (refine' dnotin ?Nw9 ?mw9 ?dw9 ?low9 ?ew9 ?_); (case Nw9 => k_asm); (case mw9 => k_mem); (case dw9 => k_asm); (case low9 => k_asm); (case ew9 => k_extra "DVAL"))
  k_with "W25" => (k_here; (try dsimp only); k_dflt (refine' din ?Nw9 ?mw9 ?dw9 ?low9 ?ew9 ?_); (case Nw9 => k_asm); (case mw9 => k_mem); (case dw9 => k_asm); (case low9 => k_asm); (case ew9 => k_extra "DVAL"))
  k_with "W26" => (k_here; (try dsimp only); (with_reducible show wpAny _ _ (subscriptTail _ _ (Value.ref _) (Value.str _ _)) _ _ _); k_dflt (refine' ditem ?Nw9 ?mw9 ?dw9 ?ew9 ?_ ?sw9; (case Nw9 => k_asm); (case mw9 => k_mem); (case dw9 => k_asm); (case ew9 => k_extra "DVAL"); (case sw9 => with_unfolding_all rfl); k_whole))
  trivial
local macro_rules | `(tactic| walk_at "pyIter ref") => `(tactic| ((with_reducible show wpAny _ _ (pyIter (Value.ref _)) (fun it s₂ => LoopAtV _ _ _ _ _ _ _ _ _ it s₂) _ _); refine stopAt ?_))
local macro_rules | `(tactic| walk_at "exec For Name Call cons nil") => `(tactic| walk_at "FORINV")
local macro_rules | `(tactic| walk_at "exec For Name Name cons nil") => `(tactic| walk_at "FORINV")
local macro_rules | `(tactic| walk_at "exec For Name Subscript cons nil") => `(tactic| walk_at "FORINV")
local macro_rules | `(tactic| walk_at "exec For Name List cons nil") => `(tactic| walk_at "FORINV")
local macro_rules | `(tactic| k_all) => `(tactic| k_extra "W18")
local macro_rules | `(tactic| k_ne) => `(tactic| k_extra "W19")
local macro_rules | `(tactic| k_updF) => `(tactic| first | (refine' UpdF.head ?a; (case a => k_all)) | (refine' UpdF.tail ?a ?b; (case b => k_updF); (case a => k_ne)))
local macro_rules | `(tactic| k_updF) => `(tactic| with_reducible assumption)
local macro_rules | `(tactic| walk_at "setItem ref str") => `(tactic| (k_extra "W20"; intro h' o' tk' F' N' hd'; (try kob_lit); (try dsimp only at N')))
local macro_rules | `(tactic| walk_at "eval Dict") => `(tactic| (k_extra "W21"; intro d' h' o' F' N' l1 lo' hd'; (try k_lt l1)))
local macro_rules | `(tactic| walk_at "KdnMade") => `(tactic| (k_here; (try dsimp only); k_dflt (refine' dmade ?F ?N ?U ?d ?k ?n ?_; (case F => k_asm); (case N => k_asm); (case U => k_updF); (case d => k_asm); (case k => rfl); (case n => exact of_decide_eq_true (by first | rfl | kernel_rfl!)); intro h' o' tk' F' N' hd'; (try kob_lit); (try dsimp only at N'))))
local macro_rules | `(tactic| walk_at "getMethod ref") => `(tactic| k_extra "W22")
local macro_rules | `(tactic| walk_at "call builtin:dict.get") => `(tactic| (k_extra "W23"; intro tk'; (try dsimp only [Option.getD])))
local macro_rules | `(tactic| walk_at "compareOp NotIn str ref") => `(tactic| (k_extra "W24"; intro tk'; (try dsimp only [Option.isSome, Bool.not_true, Bool.not_false])))
local macro_rules | `(tactic| walk_at "compareOp In str ref") => `(tactic| (k_extra "W25"; intro tk'; (try dsimp only [Option.isSome])))
local macro_rules | `(tactic| walk_at "DITEM") => `(tactic| (k_extra "W26"; intro tk'; (try dsimp only)))
local macro_rules | `(tactic| walk_at "subscriptTail Name Name ref str") => `(tactic| walk_at "DITEM")
local macro_rules | `(tactic| walk_at "subscriptTail Name Constant ref str") => `(tactic| walk_at "DITEM")
local macro_rules | `(tactic| walk_at "subscriptTail Subscript Name Name Name ref str") => `(tactic| walk_at "DITEM")
local macro_rules | `(tactic| walk_at "subscriptTail Subscript Name Constant Name ref str") => `(tactic| walk_at "DITEM")
local macro_rules | `(tactic| walk_at "subscriptTail Subscript") => `(tactic| walk_at "DITEM")
local macro_rules | `(tactic| walk_at "subscriptTail Name Subscript ref str") => `(tactic| walk_at "DITEM")
local macro_rules | `(tactic| walk_at "subscriptTail") => `(tactic| walk_at "DITEM")
local macro_rules | `(tactic| walk_at "OFFS") => `(tactic| first | exact Offs.nil | (refine' Offs.cons ?a ?b; (case b => walk_at "OFFS"); (case a => k_ne)) | exact Offs.of (by with_reducible assumption) | exact Offs.of (lt_ne (by with_reducible assumption)) | exact Offs.of (allLt_ne (by with_reducible assumption)) | exact Offs.of (lt_ne_le (by with_reducible assumption) (by omega)))
local macro_rules | `(tactic| walk_at "DROP") => `(tactic| first | (refine DropI.here ?_; walk_at "OFFS") | (refine' DropI.keep ?a ?b; (case b => walk_at "DROP"); (case a => k_ne)))

-- part p07_dtd.lean
section
open PySem.Calls PyProof.V PySem.Spec
variable (w : World) {dp un : Nat} {gd : Option (List Code)} {env : Env} {outer : List Env} {h₀ : Heap} {L : Addr} {m : Str → Option Value} {s : Shared} {Q E : Value → Shared → Prop} {news : List (Addr × Obj)}
abbrev dtdD (P : Params) (k1 k2 k3 k4 : Tok) (rt : Value) (e a n : Addr) : Obj := dictOf [ent P "root" k1 rt, ent P "elements" k2 (.ref e), ent P "attributes" k3 (.ref a), ent P "notations" k4 (.ref n)] 4
theorem declnew_t {x dd e a n rx : Addr} {k1 k2 k3 k4 tel tnm : Tok} {rt : Value} {oA : Obj} {kvs : List (Str × Value)} {el nm : Str} {g : Obj → List (Addr × Obj)} (C : Cx w outer h₀ L env m s.heap news)
    (h1 : (x, instObj 234 dd) ∈ news) (h2 : (dd, dtdD w.params k1 k2 k3 k4 rt e a n) ∈ news) (h3 : (a, oA) ∈ news) (U : UpdF a oA news g) (hA : oA.IsDictOf (PySem.strKind prg w) kvs) (lo : (a == sysModules) = false) (hz : kvs.length ≤ 10) (hv : valueAt kvs el = none)
    (hd : dp + 3 < recursionLimit) (hu : un + 24 < cLine)
    (ret : ∀ (r : Addr) oR oA' h' tk', (∀ p ∈ news, p.1 < r) → (r == sysModules) = false → oA'.IsDictOf (PySem.strKind prg w) (stored kvs el (.ref r)) → oR.IsDictOf (PySem.strKind prg w) [(nm, .ref rx)] → Fr h₀ L h' m → News h₀ L h' ((r, oR) :: g oA') → Q .none { s with heap := h', toks := tk' }) :
    wpAny (model prg w) (aT dp un gd env outer) (call (.ref 170) [.ref x, .str el tel, .str nm tnm, .ref rx]) Q E s := by
  refine C.elim ?_; intro A₀ base mean mg mb B T F N X hf hk
  k_extra "FILL"
  k_extra "ENTER"
  replace F' := Fr.of_eq (mk_binds [(Str.ofString "rule", .ref rx), (Str.ofString "name", .str nm tnm), (Str.ofString "element", .str el tel), (Str.ofString "self", .ref x)]) F'
  have hv0 : valueAt ([] : List (Str × Value)) nm = none := rfl
  k_steps
  refine' ret _ _ _ _ _ (by assumption) ?lo ?a ?r ?F ?N
  case N => k_asm
  case F => k_asm
  case lo => assumption
  case a => assumption
  case r => assumption
theorem declold_t {x dd e a n rx r : Addr} {k1 k2 k3 k4 tel tnm : Tok} {rt : Value} {oA oR : Obj} {kvs rs : List (Str × Value)} {el nm : Str} {g : Obj → List (Addr × Obj)} (C : Cx w outer h₀ L env m s.heap news)
    (h1 : (x, instObj 234 dd) ∈ news) (h2 : (dd, dtdD w.params k1 k2 k3 k4 rt e a n) ∈ news) (h3 : (a, oA) ∈ news) (hA : oA.IsDictOf (PySem.strKind prg w) kvs) (lo : (a == sysModules) = false) (hv : valueAt kvs el = some (.ref r))
    (h4 : (r, oR) ∈ news) (U : UpdF r oR news g) (hR : oR.IsDictOf (PySem.strKind prg w) rs) (lo' : (r == sysModules) = false) (hz : rs.length ≤ 10) (hv' : valueAt rs nm = none)
    (hd : dp + 3 < recursionLimit) (hu : un + 24 < cLine)
    (ret : ∀ oR' h' tk', oR'.IsDictOf (PySem.strKind prg w) (stored rs nm (.ref rx)) → Fr h₀ L h' m → News h₀ L h' (g oR') → Q .none { s with heap := h', toks := tk' }) :
    wpAny (model prg w) (aT dp un gd env outer) (call (.ref 170) [.ref x, .str el tel, .str nm tnm, .ref rx]) Q E s := by
  refine C.elim ?_; intro A₀ base mean mg mb B T F N X hf hk
  k_extra "FILL"
  k_extra "ENTER"
  replace F' := Fr.of_eq (mk_binds [(Str.ofString "rule", .ref rx), (Str.ofString "name", .str nm tnm), (Str.ofString "element", .str el tel), (Str.ofString "self", .ref x)]) F'
  k_steps
  refine' ret _ _ _ ?r ?F ?N
  case N => k_asm
  case F => k_asm
  case r => assumption
end

-- part p07b_preds.lean
section
open PySem.Calls PyProof.V PySem.Spec
def All2 {α β : Type} (R : α → β → Prop) : List α → List β → Prop
  | [], [] => True
  | a :: l, b :: m => R a b ∧ All2 R l m
  | _, _ => False
theorem All2.mono {α β : Type} {R R' : α → β → Prop} (h : ∀ a b, R a b → R' a b) : ∀ {l : List α} {m : List β}, All2 R l m → All2 R' l m
  | [], [], _ => trivial
  | _ :: _, _ :: _, x => ⟨h _ _ x.1, All2.mono h x.2⟩
  | [], _ :: _, x => x.elim
  | _ :: _, [], x => x.elim
theorem All2.length {α β : Type} {R : α → β → Prop} : ∀ {l : List α} {m : List β}, All2 R l m → l.length = m.length
  | [], [], _ => rfl
  | _ :: _, _ :: _, x => by simp [All2.length x.2]
  | [], _ :: _, x => x.elim
  | _ :: _, [], x => x.elim
theorem All2.get {α β : Type} {R : α → β → Prop} : ∀ {l : List α} {m : List β} {i : Nat} {a : α}, All2 R l m → l[i]? = some a → ∃ b, m[i]? = some b ∧ R a b
  | [], [], _, _, _, e => by simp at e
  | x :: l, y :: m, 0, a, h, e => by
    have : x = a := by simpa using e
    exact ⟨y, by simp, this ▸ h.1⟩
  | x :: l, y :: m, i + 1, a, h, e => by
    refine E1_2 (All2.get (i := i) (a := a) h.2 (by simpa using e)) ?_; intro b hb r
    exact ⟨b, by simpa using hb, r⟩
  | [], _ :: _, _, _, x, _ => x.elim
  | _ :: _, [], _, _, x, _ => x.elim
theorem All2.append {α β : Type} {R : α → β → Prop} : ∀ {l l' : List α} {m m' : List β}, All2 R l m → All2 R l' m' → All2 R (l ++ l') (m ++ m')
  | [], _, [], _, _, h => h
  | _ :: _, _, _ :: _, _, x, h => ⟨x.1, All2.append x.2 h⟩
  | [], _, _ :: _, _, x, _ => x.elim
  | _ :: _, _, [], _, x, _ => x.elim
abbrev KV {β : Type} (S : Value → β → Prop) (p : Str × Value) (q : Str × β) : Prop := p.1 = q.1 ∧ S p.2 q.2
theorem kv_at {β : Type} {S : Value → β → Prop} {k : Str} : ∀ {kvs : List (Str × Value)} {tab : List (Str × β)}, All2 (KV S) kvs tab → match tab.lookup k with | none => valueAt kvs k = none | some b => ∃ v, valueAt kvs k = some v ∧ S v b
  | [], [], _ => rfl
  | (k1, v) :: l, (k2, b) :: m, h => by
    have e : k1 = k2 := h.1.1
    subst e
    by_cases hk : k1 = k
    · subst hk
      simp only [List.lookup_cons, beq_self_eq_true]
      exact ⟨v, by simp [valueAt], h.1.2⟩
    · have ih := kv_at (k := k) h.2
      have e1 : (k == k1) = false := by simpa using Ne.symm hk
      have e2 : valueAt ((k1, v) :: l) k = valueAt l k := by simp [valueAt, hk]
      simp only [List.lookup_cons, e1, e2]
      exact ih
  | [], _ :: _, x => x.elim
  | _ :: _, [], x => x.elim
theorem kv_some {β : Type} {S : Value → β → Prop} {k : Str} {b : β} {kvs : List (Str × Value)} {tab : List (Str × β)} (h : All2 (KV S) kvs tab) (e : tab.lookup k = some b) : ∃ v, valueAt kvs k = some v ∧ S v b := by
  have := kv_at (k := k) h
  rw [e] at this; exact this
theorem kv_none {β : Type} {S : Value → β → Prop} {k : Str} {kvs : List (Str × Value)} {tab : List (Str × β)} (h : All2 (KV S) kvs tab) (e : tab.lookup k = none) : valueAt kvs k = none := by
  have := kv_at (k := k) h
  rw [e] at this; exact this
abbrev Tab := List (Str × List (Str × Str))
abbrev IsStr (v : Value) (x : Str) : Prop := ∃ t, v = .str x t
def KindsIn (w : World) (news : List (Addr × Obj)) (kd : Addr) (tab : Tab) : Prop :=
  ∃ o kvs, (kd, o) ∈ news ∧ (kd == sysModules) = false ∧ o.IsDictOf (PySem.strKind prg w) kvs ∧ All2 (KV fun v ps => ∃ a oa vs, v = .ref a ∧ (a, oa) ∈ news ∧ (a == sysModules) = false ∧ oa.IsDictOf (PySem.strKind prg w) vs ∧ All2 (KV IsStr) vs ps) kvs tab
def RuleIs (P : Params) (news : List (Addr × Obj)) (v : Value) (k : Str) : Prop :=
  ∃ x d k1 k2 k3 k4 t v2 v3 v4, v = .ref x ∧ (x, instObj 106 d) ∈ news ∧ (d, dictOf [ent P "kind" k1 (.str k t), ent P "choices" k2 v2, ent P "mode" k3 v3, ent P "value" k4 v4] 4) ∈ news
def RulesIs (w : World) (news : List (Addr × Obj)) (v : Value) (rs : List (Str × Str)) : Prop :=
  ∃ r o vs, v = .ref r ∧ (r, o) ∈ news ∧ (r == sysModules) = false ∧ o.IsDictOf (PySem.strKind prg w) vs ∧ All2 (KV (RuleIs w.params news)) vs rs
def DtdIn (w : World) (news : List (Addr × Obj)) (x : Addr) (tab : Tab) : Prop :=
  ∃ dd k1 k2 k3 k4 rt e a n oA kvs, (x, instObj 234 dd) ∈ news ∧ (dd, dtdD w.params k1 k2 k3 k4 rt e a n) ∈ news ∧ (a, oA) ∈ news ∧ (a == sysModules) = false ∧ oA.IsDictOf (PySem.strKind prg w) kvs ∧ All2 (KV (RulesIs w news)) kvs tab
theorem KindsIn.mono {w : World} {news news' : List (Addr × Obj)} {kd : Addr} {tab : Tab} (s : ∀ p ∈ news, p ∈ news') (h : KindsIn w news kd tab) : KindsIn w news' kd tab := by
  refine E2_4 (h) ?_; (try clear h); intro o kvs a b c d
  exact ⟨o, kvs, s _ a, b, c, d.mono fun p q ⟨e, a, oa, vs, h1, h2, h3⟩ => ⟨e, a, oa, vs, h1, s _ h2, h3⟩⟩
theorem RuleIs.mono {P : Params} {news news' : List (Addr × Obj)} {v : Value} {k : Str} (s : ∀ p ∈ news, p ∈ news') (h : RuleIs P news v k) : RuleIs P news' v k := by
  refine E10_3 (h) ?_; (try clear h); intro x d k1 k2 k3 k4 t v2 v3 v4 e a b
  exact ⟨x, d, k1, k2, k3, k4, t, v2, v3, v4, e, s _ a, s _ b⟩
theorem DtdIn.mono {w : World} {news news' : List (Addr × Obj)} {x : Addr} {tab : Tab} (s : ∀ p ∈ news, p ∈ news') (h : DtdIn w news x tab) : DtdIn w news' x tab := by
  refine E11_6 (h) ?_; (try clear h); intro dd k1 k2 k3 k4 rt e a n oA kvs h1 h2 h3 h4 h5 h6
  exact ⟨dd, k1, k2, k3, k4, rt, e, a, n, oA, kvs, s _ h1, s _ h2, s _ h3, h4, h5, h6.mono fun p q ⟨e, r, o, vs, g1, g2, g3, g4, g5⟩ => ⟨e, r, o, vs, g1, s _ g2, g3, g4, g5.mono fun p q ⟨e, z⟩ => ⟨e, z.mono s⟩⟩⟩
def strip (l : Addr) (all : List (Addr × Obj)) : List (Addr × Obj) := all.filter fun p => decide (p.1 ≠ l)
theorem strip_off {l : Addr} {all : List (Addr × Obj)} : ∀ p ∈ strip l all, p.1 ≠ l := fun p hp => by simpa using (List.mem_filter.mp hp).2
theorem strip_sub {l : Addr} {all : List (Addr × Obj)} : ∀ p ∈ strip l all, p ∈ all := fun p hp => (List.mem_filter.mp hp).1
section
variable {h₀ h : Heap} {L l : Addr} {all : List (Addr × Obj)} {vs : List Value} {n : Nat}
theorem strip_mem {x : Addr} {o' : Obj} (N : News h₀ L h all) (hl : (l, lst vs n) ∈ all) (hx : (x, o') ∈ all) (hc : o'.cls ≠ .type "list") : (x, o') ∈ strip l all := by
  refine List.mem_filter.mpr ⟨hx, ?_⟩
  refine decide_eq_true fun e => ?_
  dsimp only at e
  subst e
  have e := (N _ hl).1.symm.trans (N _ hx).1
  exact hc (congrArg Obj.cls (Option.some.inj e)).symm
theorem isDict_cls {w : World} {o : Obj} {kvs : List (Str × Value)} (h : o.IsDictOf (PySem.strKind prg w) kvs) : o.cls ≠ .type "list" := by
  refine E2_2 (h) ?_; (try clear h); intro _ _ hp9 _; obtain ⟨c, _⟩ := hp9
  rw [c]; simp
theorem stripN {o o1 o2 : Obj} {a1 a2 : Addr} {Z news : List (Addr × Obj)} (N : News h₀ L h ((a1, o1) :: (a2, o2) :: Z)) (hl : (l, o) ∈ Z) (hn : ∀ p ∈ news, p ∈ Z) : News h₀ L h ((l, o) :: (Mine.strip l ((a1, o1) :: (a2, o2) :: Z) ++ news)) := news_sub N fun p hp => by
  rcases List.mem_cons.mp hp with rfl | hp
  · exact .tail _ (.tail _ hl)
  · rcases List.mem_append.mp hp with hp | hp
    · exact strip_sub p hp
    · exact .tail _ (.tail _ (hn p hp))
theorem KindsIn.strip {w : World} {kd : Addr} {tab : Tab} (N : News h₀ L h all) (hl : (l, lst vs n) ∈ all) (H : KindsIn w all kd tab) : KindsIn w (Mine.strip l all) kd tab := by
  refine E2_4 (H) ?_; (try clear H); intro o kvs a b c d
  exact ⟨o, kvs, strip_mem N hl a (isDict_cls c), b, c, d.mono fun p q ⟨e, a, oa, vs, h1, h2, h3, h4, h5⟩ => ⟨e, a, oa, vs, h1, strip_mem N hl h2 (isDict_cls h4), h3, h4, h5⟩⟩
theorem DtdIn.strip {w : World} {x : Addr} {tab : Tab} (N : News h₀ L h all) (hl : (l, lst vs n) ∈ all) (H : DtdIn w all x tab) : DtdIn w (Mine.strip l all) x tab := by
  refine E11_6 (H) ?_; (try clear H); intro dd k1 k2 k3 k4 rt e a n oA kvs h1 h2 h3 h4 h5 h6
  exact ⟨dd, k1, k2, k3, k4, rt, e, a, n, oA, kvs, strip_mem N hl h1 (by simp [instObj]), strip_mem N hl h2 (by simp [dictOf]), strip_mem N hl h3 (isDict_cls h5), h4, h5, h6.mono fun p q ⟨e, r, o, vs, g1, g2, g3, g4, g5⟩ => ⟨e, r, o, vs, g1, strip_mem N hl g2 (isDict_cls g4), g3, g4, g5.mono fun p q ⟨e, x, d, k1, k2, k3, k4, t, v2, v3, v4, z, z1, z2⟩ => ⟨e, x, d, k1, k2, k3, k4, t, v2, v3, v4, z, strip_mem N hl z1 (by simp [instObj]), strip_mem N hl z2 (by simp [dictOf])⟩⟩⟩
end
inductive TakeI (l : Addr) (o : Obj) (news : List (Addr × Obj)) : List (Addr × Obj) → List (Addr × Obj) → Prop
  | here : TakeI l o news ((l, o) :: news) []
  | keep {p r R} : @Ne Nat p.1 l → TakeI l o news r R → TakeI l o news (p :: r) (p :: R)
theorem TakeI.facts {l : Addr} {o : Obj} {news : List (Addr × Obj)} : ∀ {all R : List (Addr × Obj)}, TakeI l o news all R → all = R ++ (l, o) :: news ∧ ∀ p ∈ R, p.1 ≠ l
  | _, _, .here => ⟨rfl, fun _ h => nomatch h⟩
  | _, _, .keep (p := p) h d => by
    obtain ⟨a, b⟩ := d.facts
    refine ⟨by rw [a]; rfl, fun q hq => ?_⟩
    rcases List.mem_cons.mp hq with rfl | hq
    · exact h
    · exact b q hq
theorem TakeI.news {h₀ h : Heap} {L l : Addr} {o : Obj} {news all R : List (Addr × Obj)} (t : TakeI l o news all R) (N : News h₀ L h all) : News h₀ L h ((l, o) :: (R ++ news)) := by
  rw [t.facts.1] at N
  exact news_sub N fun p hp => List.perm_middle.mem_iff.mpr hp
theorem takeX {P : Prop} {h₀ h : Heap} {L l : Addr} {o : Obj} {news all R : List (Addr × Obj)} (N : News h₀ L h all) (t : TakeI l o news all R) (k : (∀ p ∈ R, p.1 ≠ l) → News h₀ L h ((l, o) :: (R ++ news)) → P) : P := k t.facts.2 (t.news N)
abbrev st (x : String) : Str := Str.ofString x
def tabOf (v : Bool) : Tab := [(st "a", [(st "n", st "ID"), (st "r", st "IDREF"), (st "s", st "IDREFS")]),
  (st "b", if v then [(st "s", st "IDREFS"), (st "r", st "NMTOKEN")] else [(st "r", st "ID"), (st "n", st "CDATA"), (st "s", st "IDREF")])]
end

-- part p08_rules.lean
section
open PySem.Calls PyProof.V PySem.Spec
theorem lookup_take_none {β : Type} {nm : Str} {k : β} : ∀ {ps : List (Str × β)} {j : Nat}, (ps.map (·.1)).Nodup → ps[j]? = some (nm, k) → (ps.take j).lookup nm = none
  | [], _, _, h => by simp at h
  | p :: ps, 0, _, _ => by simp
  | p :: ps, j + 1, hn, h => by
    have hn' := List.nodup_cons.mp hn
    have h' : ps[j]? = some (nm, k) := by simpa using h
    have hne : nm ≠ p.1 := fun e => hn'.1 (List.mem_map.mpr ⟨_, List.mem_of_getElem? h', e⟩)
    have e1 : (nm == p.1) = false := by simpa using hne
    rw [List.take_succ_cons]
    show List.lookup nm ((p.1, p.2) :: ps.take j) = none
    simp only [List.lookup_cons, e1]
    exact lookup_take_none hn'.2 h'
theorem lookup_get {β : Type} {nm : Str} {k : β} : ∀ {ps : List (Str × β)} {j : Nat}, (ps.map (·.1)).Nodup → ps[j]? = some (nm, k) → ps.lookup nm = some k
  | [], _, _, h => by simp at h
  | p :: ps, 0, _, h => by
    have e : p = (nm, k) := by simpa using h
    subst e; simp
  | p :: ps, j + 1, hn, h => by
    have hn' := List.nodup_cons.mp hn
    have h' : ps[j]? = some (nm, k) := by simpa using h
    have hne : nm ≠ p.1 := fun e => hn'.1 (List.mem_map.mpr ⟨_, List.mem_of_getElem? h', e⟩)
    have e1 : (nm == p.1) = false := by simpa using hne
    show List.lookup nm ((p.1, p.2) :: ps) = some k
    simp only [List.lookup_cons, e1]
    exact lookup_get hn'.2 h'
theorem take_one {β : Type} {ps : List β} {p : β} (h : ps[0]? = some p) : ps.take (0 + 1) = [p] := by
  cases ps with
  | nil => simp at h
  | cons a l => simp at h; subst h; rfl
theorem RulesIs.mono {w : World} {news news' : List (Addr × Obj)} {v : Value} {rs : List (Str × Str)} (s : ∀ p ∈ news, p ∈ news') (h : RulesIs w news v rs) : RulesIs w news' v rs := by
  refine E3_5 (h) ?_; (try clear h); intro r o vs g1 g2 g3 g4 g5
  exact ⟨r, o, vs, g1, s _ g2, g3, g4, g5.mono fun _ _ z => ⟨z.1, z.2.mono s⟩⟩
theorem tab_at {v : Bool} {t1 t2 : Tok} {i : Nat} {u : Value} (h : [Value.str (st "a") t1, Value.str (st "b") t2][i]? = some u) :
    ∃ e te ps, u = .str e te ∧ (tabOf v)[i]? = some (e, ps) ∧ (ps.map (·.1)).Nodup ∧ ps ≠ [] ∧ ((tabOf v).take i).lookup e = none ∧ (tabOf v).lookup e = some ps ∧ ps.length ≤ 3 := by
  match i, h with
  | 0, h => cases v <;> exact ⟨_, _, _, by simpa using h.symm, rfl, by decide, by simp, rfl, rfl, by decide⟩
  | 1, h => cases v <;> exact ⟨_, _, _, by simpa using h.symm, rfl, by decide, by simp, by decide, rfl, by decide⟩
  | i + 2, h => simp at h
theorem value_append {kvs : List (Str × Value)} {e : Str} {v : Value} (h : valueAt kvs e = none) : valueAt (kvs ++ [(e, v)]) e = some v := by
  unfold valueAt at h ⊢
  rw [List.find?_append]
  cases hf : kvs.find? fun kv => kv.1 = e with
  | none => simp
  | some p => rw [hf] at h; simp at h
def JI (w : World) (e : Str) (te : Tok) (els0 : Tab) (ps : List (Str × Str)) (x kd l a Io : Addr) (ito : Obj) (fix : List (Addr × Obj)) : Jt := fun j m n => ∃ ov Z oA kvs,
  m = mk [(st "name", ov), (st "element", some (.str e te)), (st "dtd", some (.ref x)), (st "kinds", some (.ref kd)), (st "source", some (.ref l))] ∧ (∀ p ∈ fix, p ∈ Z) ∧ (∀ p ∈ Z, p.1 ≠ a) ∧ (∀ p ∈ Z, p.1 ≠ Io) ∧ oA.IsDictOf (PySem.strKind prg w) kvs ∧
  ((j = 0 ∧ n = (a, oA) :: (Io, ito) :: Z ∧ All2 (KV (RulesIs w Z)) kvs els0) ∨
   (∃ r oR rkv kvs0, n = (r, oR) :: (a, oA) :: (Io, ito) :: Z ∧ @Ne Nat r a ∧ @Ne Nat r Io ∧ (∀ p ∈ Z, p.1 ≠ r) ∧ (r == sysModules) = false ∧ kvs = kvs0 ++ [(e, .ref r)] ∧ All2 (KV (RulesIs w Z)) kvs0 els0 ∧ oR.IsDictOf (PySem.strKind prg w) rkv ∧ All2 (KV (RuleIs w.params Z)) rkv (ps.take j)))
def JO (w : World) (v : Bool) (x kd l a : Addr) (fix : List (Addr × Obj)) : Jt := fun i m n => ∃ ov oe Z oA kvs,
  m = mk [(st "name", ov), (st "element", oe), (st "dtd", some (.ref x)), (st "kinds", some (.ref kd)), (st "source", some (.ref l))] ∧ n = (a, oA) :: Z ∧ (∀ p ∈ fix, p ∈ Z) ∧ (∀ p ∈ Z, p.1 ≠ a) ∧ oA.IsDictOf (PySem.strKind prg w) kvs ∧ All2 (KV (RulesIs w Z)) kvs ((tabOf v).take i)
end
section
open PySem.Calls PyProof.V PySem.Spec
theorem dropX {P : Prop} {h₀ h : Heap} {L I : Addr} {it : Obj} {all Z : List (Addr × Obj)} (N : News h₀ L h all) (d : DropI I it all Z) (k : (∀ p ∈ Z, p.1 ≠ I) → News h₀ L h ((I, it) :: Z) → P) : P := k d.facts.2 (news_sub N d.facts.1)
def forBody : Option Stmt → List Stmt
  | some (.For _ _ b _ _) => b
  | _ => []
noncomputable abbrev rB : List Stmt := forBody (b_27.val[3]?)
noncomputable abbrev rE (L' : Addr) : Env := envOf (st "_law_rules") s_27.val L' 477 (.ref 476)
local macro_rules | `(tactic| walk_at "call ref") => `(tactic| k_extra "W13")

variable (w : World) {dp un : Nat} {gd : Option (List Code)} {env : Env} {outer : List Env} {g₀ base : Heap} {mean : ExcName → Option Value} {mg mb : Str → Option Value} {L' : Addr} {s : Shared} {E : Value → Shared → Prop} {Q : Flow → Shared → Prop}
theorem words11 : True := by
  k_with "CXC" => exact Cx.mk' (by k_asm) (by k_asm) (by k_asm) (by k_asm) (by k_asm) rfl rfl
  k_with "W27" => (k_here; (try dsimp only); k_dflt (first | (refine' rule_t _ ?C ?ht ?hd ?hu ?_; (case C => k_extra "CXC"); (case ht => k_mem); (case hd => ktr_room); (case hu => ktr_units); k_whole; (intro x' d' k1 k2 k3 k4 v2 v3 v4 h' tk' l1 l2 F' N'); (try k_lt l1); (try dsimp only)) | (refine' declold_t _ ?C ?h1 ?h2 ?h3 ?hA ?lo ?hv ?h4 ?U ?hR ?lo' ?hz ?hv' ?hd ?hu ?_; (case C => k_extra "CXC"); (case h1 => k_mem); (case h2 => k_mem); (case h3 => k_mem); (case hA => k_asm); (case lo => k_asm); (case hv => assumption); (case h4 => k_mem); (case U => k_updF); (case hR => k_asm); (case lo' => k_asm); (case hz => omega); (case hv' => assumption); (case hd => ktr_room); (case hu => ktr_units); k_whole; (intro oR' h' tk' hR' F' N'); (try dsimp only at N'); (try dsimp only)) | (refine' declnew_t _ ?C ?h1 ?h2 ?h3 ?U ?hA ?lo ?hz ?hv ?hd ?hu ?_; (case C => k_extra "CXC"); (case h1 => k_mem); (case h2 => k_mem); (case h3 => k_mem); (case U => k_updF); (case hA => k_asm); (case lo => k_asm); (case hz => omega); (case hv => assumption); (case hd => ktr_room); (case hu => ktr_units); k_whole; (intro r' oR' oA' h' tk' l1 lo' hA' hR' F' N'); (try k_lt l1); (try dsimp only at N'); (try dsimp only))))
  trivial
local macro_rules | `(tactic| walk_at "call ref") => `(tactic| k_extra "W27")

theorem loops_t {lv kd x dd a e0 n0 l : Addr} {k1 k2 k3 k4 : Tok} {rt : Value} {v : Bool} {t1 t2 : Tok} {nl : Nat} {Z : List (Addr × Obj)} {oA : Obj}
    (B : Below (aT dp un gd env outer) base (env :: outer) g₀) (X : (KF w.params).In g₀) (T : Top q (looseW q loose) mean mg mb g₀)
    (F : Fr g₀ (rE L').locals s.heap (mk [(st "dtd", some (.ref x)), (st "kinds", some (.ref kd)), (st "source", some (.ref l))])) (N : News g₀ (rE L').locals s.heap ((a, oA) :: Z)) (hZ : ∀ p ∈ Z, p.1 ≠ a)
    (hm : (lv, lst [.str (st "a") t1, .str (st "b") t2] nl) ∈ Z) (K : KindsIn w Z kd (tabOf v)) (h1 : (x, instObj 234 dd) ∈ Z) (h2 : (dd, dtdD w.params k1 k2 k3 k4 rt e0 a n0) ∈ Z) (lo : (a == sysModules) = false) (hA : oA.IsDictOf (PySem.strKind prg w) [])
    (hd : dp + 5 < recursionLimit) (hu : un + 40 < cLine) (hP : PassesOwn (model prg w) ((aT dp un gd env outer).deeper (rE L')) (rE L') E)
    (done : ∀ m oA' kvs Z' h' tk', (∀ p ∈ Z, p ∈ Z') → (∃ ov oe, m = mk [(st "name", ov), (st "element", oe), (st "dtd", some (.ref x)), (st "kinds", some (.ref kd)), (st "source", some (.ref l))]) → Fr g₀ (rE L').locals h' m → News g₀ (rE L').locals h' ((a, oA') :: Z') → (∀ p ∈ Z', p.1 ≠ a) →
      oA'.IsDictOf (PySem.strKind prg w) kvs → All2 (KV (RulesIs w Z')) kvs (tabOf v) → Q .next { s with heap := h', toks := tk' }) :
    wpAny (model prg w) ((aT dp un gd env outer).deeper (rE L')) (pyIter (.ref lv)) (fun it s₂ => LoopAtV prg w ((aT dp un gd env outer).deeper (rE L')) g₀ (rE L') (st "element") rB Q E it s₂) E s := by
  k_extra "FILL"
  refine for_list_J (JO w v x kd l a Z) rfl F N (.tail _ hm) ⟨none, none, Z, oA, [], ?_, rfl, fun _ h => h, hZ, hA, trivial⟩ (goOn ?_) (goOn ?_)
  · k_extra "MAP"



  · intro Io i u m₁ news₁ ito h tk hu1 hlt hoff hmem hJ hcls F1 N1
    try k_fold
    refine E5_6 (hJ) ?_; (try clear hJ); intro ov oe Z1 oA1 kvs1 hq0 hq1 hsub hZ1 hA1 hall; obtain rfl := hq0; obtain rfl := hq1
    refine E3_7 (tab_at (v := v) hu1) ?_; intro e te ps hq2 hti hnd hne hnone hsome hlen; obtain rfl := hq2
    replace F1 := Fr.of_eq (m' := mk [(st "name", ov), (st "element", some (.str e te)), (st "dtd", some (.ref x)), (st "kinds", some (.ref kd)), (st "source", some (.ref l))]) (mk_of2 (by k_extra "OFFM") rfl) F1
    refine E2_4 (K) ?_; (try clear K); intro okd kkv q1 q2 q3 q4
    refine E1_2 (kv_some q4 hsome) ?_; intro _ hv1 hr3; refine E3_5 (hr3) ?_; (try clear hr3); intro ka oka vs hq4 q5 q6 q7 q8; obtain rfl := hq4
    have q1' := hsub _ q1
    have q5' := hsub _ q5
    have hno := kv_none hall hnone
    have hkl : kvs1.length ≤ 3 := by
      rw [hall.length, List.length_take]
      exact Nat.le_trans (Nat.min_le_right _ _) (by cases v <;> decide)
    with_unfolding_all change wpAny _ _ (execs (_ :: []) _) _ _ _
    k_steps
    refine goOn ?_
    rename Fr _ _ _ _ => F1
    refine' for_dict_J (news := (a, oA1) :: (Io, ito) :: Z1) (JI w e te ((tabOf v).take i) ps x kd l a Io ito Z) rfl F1 (news_sub N1 ?S) ?m q7 q6 ?h0 (goOn ?turn) (goOn ?dn)
    case S => k_extra "SUB"
    case m => k_mem
    case h0 => exact ⟨ov, Z1, oA1, kvs1, rfl, hsub, hZ1, fun p hp => hoff p (.tail _ hp), hA1, .inl ⟨rfl, rfl, hall⟩⟩
    case turn =>
      intro I j nm vv tn m₂ news₂ it h3 tk3 hj hlt2 hoff2 hmem2 hJ2 hcls2 F2 N2
      try k_fold
      refine E4_6 (hJ2) ?_; (try clear hJ2); intro ov2 Z2 oA2 kvs2 hq5 hsub2 hZ2 hZIo hA2 hJ2; obtain rfl := hq5
      refine E1_2 (q8.get hj) ?_; intro qq hq hr6; refine E0_2 (hr6) ?_; (try clear hr6); intro hqn hr7; obtain ⟨tq, rfl⟩ := hr7
      obtain ⟨qn, qk⟩ := qq
      dsimp only at hqn hj
      subst hqn
      refine E1_2 (kv_some q8 (lookup_get hnd hq)) ?_; intro _ hv2 hr8; obtain ⟨tq', rfl⟩ := hr8
      have p1 := hsub2 _ q1
      have p2 := hsub2 _ h1
      have p3 := hsub2 _ h2
      have p4 := hsub2 _ q5
      have hIoa : @Ne Nat Io a := fun e => hoff _ (.head _) e.symm
      replace F2 := Fr.of_eq (m' := mk [(st "name", some (.str nm tn)), (st "element", some (.str e te)), (st "dtd", some (.ref x)), (st "kinds", some (.ref kd)), (st "source", some (.ref l))]) (mk_of2 (by k_extra "OFFM") rfl) F2
      rcases hJ2 with ⟨rfl, rfl, hall2⟩ | ⟨r, oR, rkv, kvs0, rfl, ra, rIo, hZr, rlo, rfl, hall0, hR, hallR⟩
      · have v1 := kv_none hall2 hnone
        have hk2 : kvs2.length ≤ 10 := by
          rw [hall2.length, List.length_take]
          exact Nat.le_trans (Nat.min_le_right _ _) (by cases v <;> decide)
        have hoffa : @Ne Nat I a := fun e => hoff2 _ (.head _) e.symm
        have hoffo : @Ne Nat I Io := fun e => hoff2 _ (.tail _ (.head _)) e.symm
        have hzI : ∀ p ∈ Z2, p.1 ≠ I := fun p hp => hoff2 p (.tail _ (.tail _ hp))
        k_steps
        rename News _ _ _ _ => N3
        rename Fr g₀ _ _ _ => F3
        refine' JPost.fin ((r', oR') :: (a, oA') :: (Io, ito) :: (x', _) :: (d', _) :: Z2) F3 N3 ?s1 ?o1 ⟨?m1, some (.str nm tn), (x', _) :: (d', _) :: Z2, oA', _, rfl, ?su, ?za, ?zo, hA', .inr ⟨r', oR', _, kvs2, rfl, ?ra, ?ri, ?zr, lo', ?st, ?al, hR', ?ru⟩⟩
        case s1 => k_extra "SUB"
        case o1 => exact Offs.mem (by walk_at "OFFS")
        case m1 => k_mem
        case su => exact fun p hp => .tail _ (.tail _ (hsub2 p hp))
        case za => exact Offs.mem (by walk_at "OFFS")
        case zo => exact Offs.mem (by walk_at "OFFS")
        case zr => exact Offs.mem (by walk_at "OFFS")
        case ra => k_ne
        case ri => k_ne
        case st => exact stored_absent v1 _
        case al => exact hall2.mono fun _ _ h => ⟨h.1, RulesIs.mono (fun p hp => .tail _ (.tail _ hp)) h.2⟩
        case ru =>
          rw [take_one hq]
          refine' ⟨⟨rfl, _, _, _, _, _, _, _, _, _, _, rfl, ?mm, ?nn⟩, trivial⟩
          case mm => k_mem
          case nn => k_mem
      · have v1 := value_append (v := .ref r) (kv_none hall0 hnone)
        have vn2 := kv_none hallR (lookup_take_none hnd hq)
        have hk2 : rkv.length ≤ 10 := by
          rw [hallR.length, List.length_take]
          exact Nat.le_trans (Nat.min_le_right _ _) (Nat.le_trans hlen (by decide))
        have hoffr : @Ne Nat I r := fun e => hoff2 _ (.head _) e.symm
        have hoffa : @Ne Nat I a := fun e => hoff2 _ (.tail _ (.head _)) e.symm
        have hoffo : @Ne Nat I Io := fun e => hoff2 _ (.tail _ (.tail _ (.head _))) e.symm
        have hzI : ∀ p ∈ Z2, p.1 ≠ I := fun p hp => hoff2 p (.tail _ (.tail _ (.tail _ hp)))
        k_steps
        rename News _ _ _ _ => N3
        rename Fr g₀ _ _ _ => F3
        rw [stored_absent vn2] at hR'
        refine' JPost.fin ((r, oR') :: (a, oA2) :: (Io, ito) :: (x', _) :: (d', _) :: Z2) F3 N3 ?s12 ?o12 ⟨?m12, some (.str nm tn), (x', _) :: (d', _) :: Z2, oA2, _, rfl, ?su2, ?za2, ?zo2, hA2, .inr ⟨r, oR', _, kvs0, rfl, ra, rIo, ?zr2, rlo, rfl, ?al2, hR', ?ru2⟩⟩
        case s12 => k_extra "SUB"
        case o12 => exact Offs.mem (by walk_at "OFFS")
        case m12 => k_mem
        case su2 => exact fun p hp => .tail _ (.tail _ (hsub2 p hp))
        case za2 => exact Offs.mem (by walk_at "OFFS")
        case zo2 => exact Offs.mem (by walk_at "OFFS")
        case zr2 => exact Offs.mem (by walk_at "OFFS")
        case al2 => exact hall0.mono fun _ _ h => ⟨h.1, RulesIs.mono (fun p hp => .tail _ (.tail _ hp)) h.2⟩
        case ru2 =>
          rw [List.take_succ, hq]
          refine All2.append (hallR.mono fun _ _ h => ⟨h.1, h.2.mono fun p hp => .tail _ (.tail _ hp)⟩) ?_
          refine' ⟨⟨rfl, _, _, _, _, _, _, _, _, _, _, rfl, ?mm2, ?nn2⟩, trivial⟩
          case mm2 => k_mem
          case nn2 => k_mem
    case dn =>
      intro m₂ news₂ h3 tk3 hmem2 hJ2 F2 N2
      try k_fold
      refine E4_6 (hJ2) ?_; (try clear hJ2); intro ov2 Z2 oA2 kvs2 hq9 hsub2 hZ2 hZIo hA2 hJ2; obtain rfl := hq9
      rcases hJ2 with ⟨e0', _, _⟩ | ⟨r, oR, rkv, kvs0, rfl, ra, rIo, hZr, rlo, rfl, hall0, hR, hallR⟩
      · exact absurd (q8.length.symm.trans e0') (fun h => hne (List.length_eq_zero_iff.mp h))
      · have hfull : ps.take vs.length = ps := by rw [q8.length]; exact List.take_length
        rw [hfull] at hallR
        have hIoa : @Ne Nat Io a := fun e => hoff _ (.head _) e.symm
        k_steps
        refine' JPost.fin ((a, oA2) :: (r, oR) :: Z2) F2 N2 ?s13 ?o13 ⟨?m13, ov2, some (.str e te), (r, oR) :: Z2, oA2, _, rfl, rfl, ?su3, ?za3, hA2, ?al3⟩
        case s13 => k_extra "SUB"
        case o13 => exact Offs.mem (by walk_at "OFFS")
        case m13 => exact .tail _ (.tail _ (hsub2 _ hm))
        case su3 => exact fun p hp => .tail _ (hsub2 p hp)
        case za3 => exact Offs.mem (by walk_at "OFFS")
        case al3 =>
          rw [List.take_succ, hti]
          refine All2.append (hall0.mono fun _ _ h => ⟨h.1, RulesIs.mono (fun p hp => .tail _ hp) h.2⟩) ?_
          exact ⟨⟨rfl, r, oR, rkv, rfl, .head _, rlo, hR, hallR.mono fun _ _ h => ⟨h.1, h.2.mono fun p hp => .tail _ hp⟩⟩, trivial⟩
  · intro m₁ news₁ h tk hmem hJ F1 N1
    try k_fold
    refine E5_6 (hJ) ?_; (try clear hJ); intro ov oe Z1 oA1 kvs1 hq0 hq1 hsub hZ1 hA1 hall; obtain rfl := hq0; obtain rfl := hq1
    refine done _ oA1 kvs1 Z1 h tk hsub ⟨ov, oe, rfl⟩ F1 N1 hZ1 hA1 ?_
    have e2 : (tabOf v).take [Value.str (st "a") t1, Value.str (st "b") t2].length = tabOf v := by cases v <;> rfl
    rw [e2] at hall
    exact hall
end
section
open PySem.Calls PyProof.V PySem.Spec
local macro_rules | `(tactic| walk_at "call ref") => `(tactic| k_extra "W13")

variable (w : World) {dp un : Nat} {gd : Option (List Code)} {env : Env} {outer : List Env} {h₀ : Heap} {L : Addr} {m : Str → Option Value} {s : Shared} {Q E : Value → Shared → Prop} {news : List (Addr × Obj)}
theorem words13 : True := by
  k_with "W28" => (k_here; (try dsimp only); k_dflt (first | (refine' take_t _ ?C ?U ?hx ?ht ?ht' ?hd ?hu ?_; (case C => k_extra "CXC"); (case U => k_updF); (case hx => k_asm); (case ht => omega); (case ht' => omega); (case hd => ktr_room); (case hu => ktr_units); k_whole; (intro d x' y' t1 t2 t3 n' h' tk' hx' hd0 hd1 F' N'); (try dsimp only at N'); (try dsimp only)) | (refine' dtd_t _ ?C ?hd ?hu ?_; (case C => k_extra "CXC"); (case hd => ktr_room); (case hu => ktr_units); k_whole; (intro x' d' a' e' n' k1 k2 k3 k4 rt oA oE oN h' tk' l1 la l2 lo' hA F' N'); (try k_lt l1); (try k_lt la); (try dsimp only))))
  k_with "STRS" => (first | exact True.intro | (refine ⟨⟨rfl, _, rfl⟩, ?_⟩; k_extra "STRS"))
  k_with "KD1" => (refine' ⟨rfl, _, _, _, rfl, ?mw9, ?low9, ?dw9, ?aw9⟩; (case mw9 => k_mem); (case low9 => assumption); (case dw9 => assumption); (case aw9 => k_extra "STRS"))
  k_with "KDIN" => (refine' ⟨_, _, ?mw9, ?low9, ?dw9, ?ew9⟩; (case mw9 => k_mem); (case low9 => assumption); (case dw9 => assumption); (case ew9 => refine' ⟨?aw9, ?bw9, ?cw9⟩; (case aw9 => k_extra "KD1"); (case bw9 => k_extra "KD1"); (case cw9 => exact True.intro)))
  k_with "RULE1" => (refine' ⟨rfl, _, _, _, _, _, _, _, _, _, _, rfl, ?mw9, ?nw9⟩; (case mw9 => k_mem); (case nw9 => k_mem))
  k_with "RULEN" => (first | exact True.intro | (refine' ⟨?aw9, ?bw9⟩; (case aw9 => k_extra "RULE1"); (case bw9 => k_extra "RULEN")))
  k_with "RULES1" => (refine' ⟨rfl, _, _, _, rfl, ?mw9, ?low9, ?dw9, ?aw9⟩; (case mw9 => k_mem); (case low9 => assumption); (case dw9 => assumption); (case aw9 => k_extra "RULEN"))
  k_with "DTDIN" => (refine' ⟨_, _, _, _, _, _, _, _, _, _, _, ?m1w9, ?m2w9, ?m3w9, ?low9, ?dw9, ?ew9⟩; (case m1w9 => k_mem); (case m2w9 => k_mem); (case m3w9 => k_mem); (case low9 => assumption); (case dw9 => assumption); (case ew9 => refine' ⟨?aw9, ?bw9, ?cw9⟩; (case aw9 => k_extra "RULES1"); (case bw9 => k_extra "RULES1"); (case cw9 => exact True.intro)))
  trivial
local macro_rules | `(tactic| walk_at "call ref") => `(tactic| k_extra "W28")
local macro_rules | `(tactic| walk_at "TAKE") => `(tactic| first | exact TakeI.here | (refine' TakeI.keep ?a ?b; (case b => walk_at "TAKE"); (case a => first | k_ne | exact Ne.symm (hl _ (by k_mem)))))

theorem rules_t {l : Addr} {x y : Int} {tx ty : Tok} {n : Nat} (C : Cx w outer h₀ L env m s.heap ((l, src x y tx ty n) :: news)) (hl : ∀ p ∈ news, p.1 ≠ l)
    (hx : 0 ≤ x ∧ 0 ≤ y ∧ y < 2147483647)
    (hd : dp + 5 < recursionLimit) (hu : un + 40 < cLine)
    (ret : ∀ (lv kd dt : Addr) (v : Bool) (R : List (Addr × Obj)) (x' y' : Int) (t1 t2 : Tok) n1 n' h' tk', (0 ≤ x' ∧ 0 ≤ y' ∧ y' < 2147483647) → (∀ p ∈ R, p.1 ≠ l) → (lv, lst [.ref kd, .ref dt] n1) ∈ R → KindsIn w R kd (tabOf v) → DtdIn w R dt (tabOf v) →
      Fr h₀ L h' m → News h₀ L h' ((l, src x' y' t1 t2 n') :: (R ++ news)) → Q (.ref lv) { s with heap := h', toks := tk' }) :
    wpAny (model prg w) (aT dp un gd env outer) (call (.ref 477) [.ref l]) Q E s := by
  refine C.elim ?_; intro A₀ base mean mg mb B T F N X hf hk
  k_extra "FILL"
  k_extra "ENTER"
  replace F' := Fr.of_eq (mk_binds [(Str.ofString "source", .ref l)]) F'
  k_steps
  · rename News _ _ _ _ => NN
    rename Fr g' _ _ _ => FF
    replace FF := Fr.of_eq (L := (rE L').locals) (m' := mk [(st "dtd", some (.ref x')), (st "kinds", some (.ref _)), (st "source", some (.ref l))]) (mk_of2 (by k_extra "OFFM") rfl) FF
    replace NN := news_sub (L := (rE L').locals) NN fun _ h => h
    refine' dropX (I := a') NN ?da ?ka
    case da => walk_at "DROP"
    intro hZ NZ
    refine' loops_t w (L' := L') (v := true) B' X' T' ?ffa ?nza ?hza ?hma ?Ka ?h1a ?h2a lo' hA ?hda ?hua ?hPa ?dna
    case ffa => exact FF
    case nza => exact NZ
    case hza => exact hZ
    case hma => k_mem
    case Ka => k_extra "KDIN"
    case h1a => k_mem
    case h2a => k_mem
    case hda => omega
    case hua => omega
    case hPa => passes_own
    case dna =>
      intro m2 oA2 kvs2 Z2 h2 tk2 hs hmm F2 N2 hz2 hA2 hall2
      try k_fold
      refine E2_1 (hmm) ?_; (try clear hmm); intro ov oe hq2; obtain rfl := hq2
      k_steps
      rename News h₀ L _ _ => N3
      rename Fr h₀ L _ _ => F3
      have hl2 := hs _ (by k_mem : (l, _) ∈ _)
      refine' ret _ _ _ true (strip l _) _ _ _ _ _ _ _ _ hx' strip_off ?ma (KindsIn.strip N3 (.tail _ (.tail _ hl2)) ?K2a) (DtdIn.strip N3 (.tail _ (.tail _ hl2)) ?D2a) F3 (stripN N3 hl2 ?Sa)
      case ma => exact List.mem_filter.mpr ⟨by k_mem, decide_eq_true (ltNe' (by assumption) hl2)⟩
      case K2a => exact KindsIn.mono (fun p hp => .tail _ (.tail _ (hs p hp))) (by k_extra "KDIN")
      case D2a => exact ⟨d', _, _, _, _, _, _, a', _, oA2, kvs2, .tail _ (.tail _ (hs _ (by k_mem))), .tail _ (.tail _ (hs _ (by k_mem))), .tail _ (.head _), lo', hA2, hall2.mono fun _ _ h => ⟨h.1, RulesIs.mono (fun p hp => .tail _ (.tail _ hp)) h.2⟩⟩
      case Sa => exact fun p hp => hs p (by k_extra "INTAIL")
  · rename News _ _ _ _ => NN
    rename Fr g' _ _ _ => FF
    replace FF := Fr.of_eq (L := (rE L').locals) (m' := mk [(st "dtd", some (.ref x')), (st "kinds", some (.ref _)), (st "source", some (.ref l))]) (mk_of2 (by k_extra "OFFM") rfl) FF
    replace NN := news_sub (L := (rE L').locals) NN fun _ h => h
    refine' dropX (I := a') NN ?db ?kb
    case db => walk_at "DROP"
    intro hZ NZ
    refine' loops_t w (L' := L') (v := false) B' X' T' ?ffb ?nzb ?hzb ?hmb ?Kb ?h1b ?h2b lo' hA ?hdb ?hub ?hPb ?dnb
    case ffb => exact FF
    case nzb => exact NZ
    case hzb => exact hZ
    case hmb => k_mem
    case Kb => k_extra "KDIN"
    case h1b => k_mem
    case h2b => k_mem
    case hdb => omega
    case hub => omega
    case hPb => passes_own
    case dnb =>
      intro m2 oA2 kvs2 Z2 h2 tk2 hs hmm F2 N2 hz2 hA2 hall2
      try k_fold
      refine E2_1 (hmm) ?_; (try clear hmm); intro ov oe hq3; obtain rfl := hq3
      k_steps
      rename News h₀ L _ _ => N3
      rename Fr h₀ L _ _ => F3
      have hl2 := hs _ (by k_mem : (l, _) ∈ _)
      refine' ret _ _ _ false (strip l _) _ _ _ _ _ _ _ _ hx' strip_off ?mb (KindsIn.strip N3 (.tail _ (.tail _ hl2)) ?K2b) (DtdIn.strip N3 (.tail _ (.tail _ hl2)) ?D2b) F3 (stripN N3 hl2 ?Sb)
      case mb => exact List.mem_filter.mpr ⟨by k_mem, decide_eq_true (ltNe' (by assumption) hl2)⟩
      case K2b => exact KindsIn.mono (fun p hp => .tail _ (.tail _ (hs p hp))) (by k_extra "KDIN")
      case D2b => exact ⟨d', _, _, _, _, _, _, a', _, oA2, kvs2, .tail _ (.tail _ (hs _ (by k_mem))), .tail _ (.tail _ (hs _ (by k_mem))), .tail _ (.head _), lo', hA2, hall2.mono fun _ _ h => ⟨h.1, RulesIs.mono (fun p hp => .tail _ (.tail _ hp)) h.2⟩⟩
      case Sb => exact fun p hp => hs p (by k_extra "INTAIL")
end

-- part p09_read.lean
section
open PySem.Calls PyProof.V PySem.Spec
variable (w : World) {dp un : Nat} {gd : Option (List Code)} {env : Env} {outer : List Env} {h₀ : Heap} {L : Addr} {m : Str → Option Value} {s : Shared} {Q E : Value → Shared → Prop} {news Z : List (Addr × Obj)}
theorem rulesof_t {x : Addr} {tab : Tab} {e : Str} {te : Tok} {rs : List (Str × Str)} (C : Cx w outer h₀ L env m s.heap news) (hs : ∀ p ∈ Z, p ∈ news) (H : DtdIn w Z x tab) (he : tab.lookup e = some rs)
    (hd : dp + 2 < recursionLimit) (hu : un + 16 < cLine)
    (ret : ∀ (r : Addr) (o : Obj) (vs : List (Str × Value)) h' tk', (r, o) ∈ Z → (r == sysModules) = false → o.IsDictOf (PySem.strKind prg w) vs → All2 (KV (RuleIs w.params Z)) vs rs → Fr h₀ L h' m → News h₀ L h' news → Q (.ref r) { s with heap := h', toks := tk' }) :
    wpAny (model prg w) (aT dp un gd env outer) (call (.ref 191) [.ref x, .str e te]) Q E s := by
  refine C.elim ?_; intro A₀ base mean mg mb B T F N X hf hk
  refine E11_6 (H) ?_; (try clear H); intro dd k1 k2 k3 k4 rt ee a n oA kvs h1 h2 h3 h4 h5 h6
  refine E1_2 (kv_some h6 he) ?_; intro _ hv hr4; refine E3_5 (hr4) ?_; (try clear hr4); intro r o vs hq5 g2 g3 g4 g5; obtain rfl := hq5
  have h1 := hs _ h1
  have h2 := hs _ h2
  have h3 := hs _ h3
  k_extra "FILL"
  k_extra "ENTER"
  replace F' := Fr.of_eq (mk_binds [(Str.ofString "element", .str e te), (Str.ofString "self", .ref x)]) F'
  k_steps
  rename News _ _ _ _ => N9
  exact ret r o vs _ _ g2 g3 g4 g5 (by k_asm) (news_sub N9 fun p hp => .tail _ hp)
end
section
open PySem.Calls PyProof.V PySem.Spec
theorem kv_opt {β : Type} {S : Value → β → Prop} {k : Str} {kvs : List (Str × Value)} {tab : List (Str × β)} (h : All2 (KV S) kvs tab) : ∃ ov, valueAt kvs k = ov ∧ match tab.lookup k with | none => ov = none | some b => ∃ v, ov = some v ∧ S v b := by
  have := kv_at (k := k) h
  cases e : tab.lookup k with
  | none => rw [e] at this; exact ⟨_, this, rfl⟩
  | some b => rw [e] at this; refine E1_2 (this) ?_; (try clear this); intro v h1 h2; exact ⟨_, h1, v, rfl, h2⟩
variable (w : World) {dp un : Nat} {gd : Option (List Code)} {env : Env} {outer : List Env} {h₀ : Heap} {L : Addr} {m : Str → Option Value} {s : Shared} {Q E : Value → Shared → Prop} {news Z : List (Addr × Obj)}
theorem words14 : True := by
  k_with "W29" => (k_here; (try dsimp only); k_dflt (refine' rulesof_t _ ?C ?hs ?H ?he ?hd ?hu ?_); (case C => k_extra "CXC"); (case H => assumption); (case hs => walk_at "SUBI"); (case he => assumption); (case hd => ktr_room); (case hu => ktr_units); k_whole; (intro r o vs h' tk' g1 g2 g3 g4 F' N'); (try dsimp only))
  trivial
local macro_rules | `(tactic| walk_at "call ref") => `(tactic| k_extra "W29")

theorem rule1_t {x : Addr} {tab : Tab} {e nm : Str} {te tn : Tok} {rs : List (Str × Str)} (C : Cx w outer h₀ L env m s.heap news) (hs : ∀ p ∈ Z, p ∈ news) (H : DtdIn w Z x tab) (he : tab.lookup e = some rs)
    (hd : dp + 3 < recursionLimit) (hu : un + 24 < cLine)
    (ret : ∀ (v : Value) h' tk', (match rs.lookup nm with | none => v = .none | some k => RuleIs w.params Z v k) → Fr h₀ L h' m → News h₀ L h' news → Q v { s with heap := h', toks := tk' }) :
    wpAny (model prg w) (aT dp un gd env outer) (call (.ref 198) [.ref x, .str e te, .str nm tn]) Q E s := by
  refine C.elim ?_; intro A₀ base mean mg mb B T F N X hf hk
  have H0 := H
  refine E11_6 (H0) ?_; (try clear H0); intro dd k1 k2 k3 k4 rt ee a n oA kvs h1 h2 h3 h4 h5 h6
  have h1 := hs _ h1
  have h2 := hs _ h2
  k_extra "FILL"
  k_extra "ENTER"
  replace F' := Fr.of_eq (mk_binds [(Str.ofString "name", .str nm tn), (Str.ofString "element", .str e te), (Str.ofString "self", .ref x)]) F'
  k_steps
  have g1 := hs _ g1
  refine E1_2 (kv_opt (k := nm) g4) ?_; intro ov hv hov
  k_steps
  refine' ret _ _ _ ?v ?F ?N
  case N => k_asm
  case F => k_asm
  case v =>
    (try rw [hv])
    revert hov
    cases List.lookup nm rs with
    | none => intro h; rw [h]
    | some b => rintro ⟨v, h1, h2⟩; rw [h1]; exact h2
end

-- part p09b_dcomp.lean
section
open LCg LCt PySem.Calls PyProof.V PySem.Spec
variable {w : World} {A : Around} {E : Value → Shared → Prop} {s : Shared} {h₀ : Heap} {L : Addr} {m : Str → Option Value} {env : Env}
theorem compRestT_J {prog : Program} {ct elt : PySem.Expr} {x : Str} {scope : Scope} {cl : List (Str × Addr)} {S : List (Addr × Obj) → Prop} {P : Nat → Value → Prop} {Fin : List Value → List (Addr × Obj) → Prop} {n : Nat} (J : Jc)
    (turn : ∀ i ys news v I oI C oC D m₂ h tk (E' : Value → Shared → Prop), i < n → P i v → J i ys news → NsObj oC m₂ → m₂ x = some v → Fr h₀ L h m → News h₀ L h ((I, oI) :: (C, oC) :: (D, LCg.lst ys) :: news) →
      (∀ p ∈ news, p.1 ≠ I ∧ p.1 ≠ C ∧ p.1 ≠ D) → ((@Ne Nat I C) ∧ (@Ne Nat I D) ∧ (@Ne Nat C D)) →
      wpAny (model prog w) A (isTrue ct (compEnvC scope cl C env) (eval ct (compEnvC scope cl C env))) (fun ok s' => if ok = true then
        wpAny (model prog w) A (eval elt (compEnvC scope cl C env)) (CEnd h₀ L m { s with heap := h, toks := tk } I oI C oC D (LCg.lst ys) S (fun y news' => J (i + 1) (ys ++ [y]) news')) E' s'
        else CEnd h₀ L m { s with heap := h, toks := tk } I oI C oC D (LCg.lst ys) S (fun _ news' => J (i + 1) ys news') Value.none s') E' { s with heap := h, toks := tk })
    (fin : ∀ ys news, J n ys news → Fin ys news) : ∀ (k i : Nat) (ys : List Value) (news : List (Addr × Obj)), i + k = n → J i ys news → CompRestT prog w A h₀ L m env ct elt x scope cl s S P Fin k i ys news
  | 0, i, ys, news, e, hj => by
    have : i = n := by omega
    subst this
    exact fin ys news hj
  | k + 1, i, ys, news, e, hj => by
    intro v I oI C oC D m₂ h tk E' hv hC hx F N off ne
    refine wpAny_mono (turn i ys news v I oI C oC D m₂ h tk E' (by omega) hv hj hC hx F N off.mem ne) (fun ok s' p => ?_) fun _ _ e => e
    cases ok with
    | true =>
      simp only [if_true] at p ⊢
      exact wpAny_mono p (fun y s₂ p => CompEnd.mono (fun n' _ _ r => compRestT_J J turn fin k (i + 1) (ys ++ [y]) n' (by omega) r) p) fun _ _ e => e
    | false =>
      simp only [Bool.false_eq_true, if_false] at p ⊢
      exact CompEnd.mono (fun n' _ _ r => compRestT_J J turn fin k (i + 1) ys n' (by omega) r) p
def SrcDT (w : World) (A : Around) (h₀ : Heap) (L : Addr) (m : Str → Option Value) (env : Env) (ct elt : PySem.Expr) (x : Str) (scope : Scope) (cl : List (Str × Addr)) (Fin : Shared → List Value → List (Addr × Obj) → Prop) (xv : Value) (s₁ : Shared) : Prop :=
  ∃ d od kvs news, xv = .ref d ∧ A.handled = none ∧ Fr h₀ L s₁.heap m ∧ News h₀ L s₁.heap news ∧ (d, od) ∈ news ∧ od.IsDictOf (PySem.strKind prg w) kvs ∧ (d == sysModules) = false ∧ kvs.length ≤ 1000 ∧
    ∀ s₂ : Shared, (∃ h, s₂ = { s₁ with heap := h }) → CompRestT prg w A h₀ L m env ct elt x scope cl s₂ (fun n => (d, od) ∈ n) (fun i v => ∃ k u, kvs[i]? = some (k, u) ∧ (PySem.strKind prg w).is k v = true) (Fin s₂) kvs.length 0 [] news
theorem ListComp_D {ct elt iter : PySem.Expr} {x : Str} {px : Pos} {scope : Scope} {cl : List (Str × Addr)} {pos : Pos} {Q : Value → Shared → Prop} (F₀ : Fr h₀ L s.heap m)
    (hclos : closureFor scope env = pure cl) (hcell : ∀ y ∈ scope.names, y.2 ≠ .cell) (hkind : scope.kind = .function)
    (hnames : ∀ y ∈ scope.names, y.2 = .local → scope.names.lookup y.1 = some .local) (hx : scope.names.lookup x = some .local)
    (h : wpAny (model prg w) A (eval iter env) (SrcDT w A h₀ L m env ct elt x scope cl (fun s₂ => FinE h₀ L m s₂ Q)) E s)
    (hs : ∀ x, foldedSetIterable iter env x = pure x := by intro _; rfl) :
    wpAny (model prg w) A (eval (.ListComp elt [⟨.Name x px, iter, [ct], 0⟩] scope pos) env) Q E s := by
  rw [eval_ListComp]
  refine wpAny_comprehension_free (use := none) rfl hs hclos hkind hnames (wpAny_mono h (fun xv s₁ h₁ => ?_) fun _ _ e => e)
  refine E4_9 (h₁) ?_; (try clear h₁); intro d od kvs news hq6 hh F N hm hd lo hz R; obtain rfl := hq6
  have hax := N _ hm
  obtain ⟨ep, ha⟩ := KdkAt.of hd
  have hat := ha.dictAt hax.1
  have hlt : d < s₁.heap.objs.size := Heap.lt_size hax.1
  refine wpAny_pyIter_dict lo hat ?_
  refine block_T (n := kvs.length) (I := s₁.heap.objs.size) (S := fun n => (d, od) ∈ n) (P := fun i v => ∃ k u, kvs[i]? = some (k, u) ∧ (PySem.strKind prg w).is k v = true) (fp := [s₁.heap.objs.size, d]) (St := fun i h => h.IsKeyIter s₁.heap.objs.size d i kvs.length ep ∧ h.DictAt (PySem.strKind prg w) d kvs ep)
    (Walks.dictKeys (prog := prg) (w := w) (knd := PySem.strKind prg w) hh s₁.heap.objs.size d (Nat.ne_of_lt hlt) kvs ep) (by rw [sizeLine_eq]; omega)
    (fun i h st => by refine E1_2 (st.1) ?_; intro o e _; exact ⟨o, e⟩) ?_ hcell hkind hx ⟨⟨_, Heap.get?_push_size _ rfl, rfl, rfl⟩, hat.push _⟩ (fun b hb => ?_)
      (F.push _) (fun p hp => ⟨Heap.get?_push_of_some _ (N p hp).1, (N p hp).2⟩) (Nat.ne_of_lt F.ns.lt) (next_is_new F) (fun p hp => Nat.ne_of_lt (Heap.lt_size (N p hp).1)) hm (R _ ⟨_, rfl⟩) ?_
  · intro i h h' o nw st e e' hk N' hS
    refine ⟨?_, ha.dictAt (N' _ hS).1⟩
    refine E1_2 (st.1) ?_; intro o1 e1 r
    rw [e] at e1
    cases e1
    exact ⟨_, e', r⟩
  · show b < (s₁.heap.push _).objs.size
    rw [Heap.size_push]
    rcases List.mem_cons.mp hb with rfl | hb
    · exact Nat.lt_succ_self _
    · rw [List.mem_singleton.mp hb]; exact Nat.lt_succ_of_lt hlt
  · intro D C h tk m' ys news' F' N' o1 hn hC₀ hD₀ hCL hDL hCD offC fin
    refine ⟨m', hn, fun h'' hs'' => fin D h'' tk (F'.change hs'' hCL hC₀) (fun p hp => ?_) o1⟩
    refine ⟨hs''.extBut _ _ ?_ (N' p hp).1, (N' p hp).2⟩
    rcases List.mem_cons.mp hp with rfl | hp
    · exact Ne.symm hCD
    · exact offC p hp
theorem comp_dict_J {ct elt : PySem.Expr} {x : Str} {scope : Scope} {cl : List (Str × Addr)} {Fin : Shared → List Value → List (Addr × Obj) → Prop} {d : Addr} {od : Obj} {kvs : List (Str × Value)} {news : List (Addr × Obj)} {s₁ : Shared} (J : Jc)
    (hh : A.handled = none) (F : Fr h₀ L s₁.heap m) (N : News h₀ L s₁.heap news) (hm : (d, od) ∈ news) (hd : od.IsDictOf (PySem.strKind prg w) kvs) (lo : (d == sysModules) = false) (hz : kvs.length ≤ 1000) (h0 : J 0 [] news)
    (turn : Later (∀ (s : Shared) i ys news k u t I oI C oC D m₂ h tk (E' : Value → Shared → Prop), kvs[i]? = some (k, u) → J i ys news → NsObj oC m₂ → m₂ x = some (.str k t) → Fr h₀ L h m → News h₀ L h ((I, oI) :: (C, oC) :: (D, LCg.lst ys) :: news) →
      (∀ p ∈ news, p.1 ≠ I ∧ p.1 ≠ C ∧ p.1 ≠ D) → ((@Ne Nat I C) ∧ (@Ne Nat I D) ∧ (@Ne Nat C D)) →
      wpAny (model prg w) A (isTrue ct (compEnvC scope cl C env) (eval ct (compEnvC scope cl C env))) (fun ok s' => if ok = true then
        wpAny (model prg w) A (eval elt (compEnvC scope cl C env)) (CEnd h₀ L m { s with heap := h, toks := tk } I oI C oC D (LCg.lst ys) (fun n => (d, od) ∈ n) (fun y news' => J (i + 1) (ys ++ [y]) news')) E' s'
        else CEnd h₀ L m { s with heap := h, toks := tk } I oI C oC D (LCg.lst ys) (fun n => (d, od) ∈ n) (fun _ news' => J (i + 1) ys news') Value.none s') E' { s with heap := h, toks := tk }))
    (fin : Later (∀ g ys news, J kvs.length ys news → Fin { s₁ with heap := g } ys news)) : SrcDT w A h₀ L m env ct elt x scope cl Fin (.ref d) s₁ := by
  refine ⟨d, od, kvs, news, rfl, hh, F, N, hm, hd, lo, hz, ?_⟩
  rintro s₂ ⟨g, rfl⟩
  refine compRestT_J J (fun i ys news v I oI C oC D m₂ h tk E' hi hv hj hC hx => ?_) (fin g) kvs.length 0 [] news (by omega) h0
  refine E2_2 (hv) ?_; (try clear hv); intro k u e hk
  obtain ⟨t, rfl⟩ := PySem.Value.isStrOf_shape hk
  exact turn _ i ys news k u t I oI C oC D m₂ h tk E' e hj hC hx
end
theorem bindL_mk {kindOf : Str → Option NameKind} {binds l : List (Str × Value)} (h : (binds.reverse.filter fun p => decide (kindOf p.1 = some .local)) = l) : bindL kindOf binds (fun _ => none) = mk (l.map fun p => (p.1, some p.2)) := by
  subst h
  rw [← mk_binds]
  have gen : ∀ (binds : List (Str × Value)) (acc : List (Str × Value)), bindL kindOf binds (fun y => List.lookup y acc) = fun y => List.lookup y ((binds.reverse.filter fun p => decide (kindOf p.1 = some .local)) ++ acc) := by
    intro binds
    induction binds with
    | nil => intro acc; rfl
    | cons p r ih =>
      intro acc
      obtain ⟨n, v⟩ := p
      rw [bindL]
      by_cases hk : kindOf n = some .local
      · have e : (fun y => if y = n then some v else List.lookup y acc) = fun y => List.lookup y ((n, v) :: acc) := by
          funext y
          simp only [List.lookup_cons]
          by_cases hy : y = n
          · simp [hy]
          · rw [if_neg hy, show (y == n) = false from by simpa using hy]
        rw [if_pos hk, e, ih]
        simp [List.filter_append, hk]
      · rw [if_neg hk, ih]
        simp [List.filter_append, hk]
  have := gen binds []
  simpa using this

-- part p09c2_eq.lean
section
open PySem.Calls PyProof.V PySem.Spec
theorem kes_canLayAll0 : ∀ ns : List Str, (∀ x ∈ ns, PyData.strOk x = true) → PyData.canLayAll0 (ns.map PyData.str) = true
  | [], _ => rfl
  | x :: r, h => by simp [PyData.canLayAll0, PyData.canLay0, kes_canLayAll0 r (fun y hy => h y (.tail _ hy)), h x (.head _)]
theorem kes_depthAll : ∀ ns : List Str, PyData.depthAll (ns.map PyData.str) = 0
  | [] => rfl
  | _ :: r => by simp [PyData.depthAll, PyData.depth, kes_depthAll r]
theorem kes_shaped {ns : List Str} (h : ∀ x ∈ ns, PyData.strOk x = true) : SeqAt.shaped (.list (ns.map PyData.str)) = true := by
  simp [SeqAt.shaped, PyData.canLay0, PyData.depth, kes_canLayAll0 ns h, kes_depthAll]
theorem kes_sameAll : ∀ ns ms : List Str, PySem.Spec.sameAll (ns.map PyData.str) (ms.map PyData.str) = decide (ns = ms)
  | [], [] => by simp [PySem.Spec.sameAll]
  | [], _ :: _ => by simp [PySem.Spec.sameAll]
  | _ :: _, [] => by simp [PySem.Spec.sameAll]
  | a :: r, b :: t => by
    simp only [List.map_cons, PySem.Spec.sameAll, PySem.Spec.same, kes_sameAll r t]
    by_cases h : a = b <;> by_cases h' : r = t <;> simp [h, h']
theorem kes_same (ns ms : List Str) : PySem.Spec.same (.list (ns.map PyData.str)) (.list (ms.map PyData.str)) = decide (ns = ms) := by
  simp only [PySem.Spec.same]; exact kes_sameAll ns ms
theorem kes_carried : ∀ {vs : List Value} {ns : List Str}, StrsAre vs ns → CarriedAll vs (ns.map PyData.str)
  | _, _, .nil => .nil
  | _, _, .cons _ t r => .cons (.str _ t) (kes_carried r)
theorem ne_strs {w : World} {A : Around} {E : Value → Shared → Prop} {s : Shared} {h₀ : Heap} {L a b : Addr} {xs ys : List Value} {ns ms : List Str} {i j : Nat} {news : List (Addr × Obj)} {Q : Value → Shared → Prop}
    (N : News h₀ L s.heap news) (ha : (a, lst xs i) ∈ news) (hb : (b, lst ys j) ∈ news) (hi : StrsAre xs ns) (hj : StrsAre ys ms) (o1 : ∀ x ∈ ns, PyData.strOk x = true) (o2 : ∀ x ∈ ms, PyData.strOk x = true) (hu : A.units + 64 < cLine) (h : Q (.bool (!decide (ns = ms))) s) :
    wpAny (model prg w) A (compareOp .NotEq (.ref a) (.ref b)) Q E s :=
  ne_dataH_same (reads_newData (isList_mem N ha) (kes_carried hi)) (reads_newData (isList_mem N hb) (kes_carried hj)) (kes_shaped o1) (kes_shaped o2) hu (SeqAt.noMix_of_shape (.list .str) rfl _ _ (list_map_has fun _ => rfl) (list_map_has fun _ => rfl)) (by rw [kes_same]; exact h)
end

-- part p09c_names.lean
section
open LCg LCt PySem.Calls PyProof.V PySem.Spec
theorem words15 : True := by
  k_with "W30" => exact Offs.mem (by walk_at "OFFS")
  trivial
local macro_rules | `(tactic| walk_at "call ref") => `(tactic| k_extra "W13")
local macro_rules | `(tactic| k_all) => `(tactic| k_extra "W30")

variable (w : World) {dp un : Nat} {gd : Option (List Code)} {env : Env} {outer : List Env} {h₀ : Heap} {L : Addr} {m : Str → Option Value} {s : Shared} {Q E : Value → Shared → Prop} {news Z : List (Addr × Obj)}
theorem words16 : True := by
  k_with "W31" => (k_here; k_dflt (refine ListComp_D (F₀ := by k_asm) (by with_unfolding_all rfl) (by decide) (by rfl) (by decide) (by rfl) ?_))
  trivial
local macro_rules | `(tactic| walk_at "call ref") => `(tactic| k_extra "W29")
local macro_rules | `(tactic| walk_at "eval ListComp") => `(tactic| k_extra "W31")
local macro_rules | `(tactic| walk_at "SrcDT") => `(tactic| refine stopAt ?_)

def namesOf (kd : Str) (rs : List (Str × Str)) : List Str := (rs.filter fun p => decide (p.2 = kd)).map (·.1)
theorem namesOf_step {kd : Str} {rs : List (Str × Str)} {i : Nat} {k k' : Str} (h : rs[i]? = some (k, k')) : namesOf kd (rs.take (i + 1)) = if k' = kd then namesOf kd (rs.take i) ++ [k] else namesOf kd (rs.take i) := by
  rw [List.take_succ, h]
  unfold namesOf
  by_cases e : k' = kd
  · simp [List.filter_append, e]
  · simp [List.filter_append, e]
theorem names_t {x : Addr} {tab : Tab} {e kd : Str} {te tn : Tok} {rs : List (Str × Str)} (C : Cx w outer h₀ L env m s.heap news) (hs : ∀ p ∈ Z, p ∈ news) (H : DtdIn w Z x tab) (he : tab.lookup e = some rs) (hnd : (rs.map (·.1)).Nodup) (hl : rs.length ≤ 3)
    (hd : dp + 3 < recursionLimit) (hu : un + 24 < cLine)
    (ret : ∀ (l : Addr) ys n h' tk', StrsAre ys (namesOf kd rs) → Fr h₀ L h' m → News h₀ L h' ((l, lst ys n) :: news) → Q (.ref l) { s with heap := h', toks := tk' }) :
    wpAny (model prg w) (aT dp un gd env outer) (call (.ref 203) [.ref x, .str e te, .str kd tn]) Q E s := by
  refine C.elim ?_; intro A₀ base mean mg mb B T F N X hf hk
  have H0 := H
  refine E11_6 (H0) ?_; (try clear H0); intro dd k1 k2 k3 k4 rt ee a n oA kvs h1 h2 h3 h4 h5 h6
  have h1 := hs _ h1
  have h2 := hs _ h2
  k_extra "FILL"
  k_extra "ENTERC"
  replace F' := Fr.of_eq (bindL_mk (l := [(st "element", .str e te), (st "self", .ref x)]) (by with_unfolding_all rfl)) F'
  rename_i o1 o2 dd1 dd2
  replace dd1 : o1.data = .cell none := dd1
  replace dd2 : o2.data = .cell (some (.str kd tn)) := dd2
  k_steps
  refine goOn ?_
  have g1 := hs _ g1
  rename Fr _ _ _ _ => F1
  rename News _ _ _ _ => N1
  refine comp_dict_J (fun i ys n => n = _ ∧ StrsAre ys (namesOf kd (rs.take i))) rfl F1 N1 (by k_mem) g3 g2 (by rw [g4.length]; omega) ⟨rfl, .nil⟩ (goOn ?_) (goOn ?_)
  · intro s1 i ys n1 k u t I oI C oC D m2 h1 tk1 E1 hk hJ hC hx1 F2 N2 hoff hne
    try k_fold
    obtain ⟨rfl, hJ⟩ := hJ
    k_extra "OFF3"
    refine E1_3 (g4.get hk) ?_; intro hp7 hq hq8 hru; obtain ⟨k', kd'⟩ := hp7; obtain rfl := hq8
    dsimp only at hk hru
    refine E1_2 (kv_some g4 (lookup_get hnd hq)) ?_; intro _ hv2 hr9; refine E10_3 (hr9) ?_; (try clear hr9); intro rx rd c1 c2 c3 c4 ct v2 v3 v4 hq0 q1 q2; obtain rfl := hq0
    have q1 := hs _ q1
    have q2 := hs _ q2
    k_steps
    · (rename (_ = true) => hb)
      refine CEnd.fin _ F2 N2 (fun p hp => hp) hoff (.tail _ (.tail _ g1)) ⟨rfl, ?_⟩
      rw [namesOf_step hq, if_pos (by simpa using hb)]
      exact strs_append hJ (.cons _ _ .nil)
    · (rename (_ = false) => hb)
      refine CEnd.fin _ F2 N2 (fun p hp => hp) hoff (.tail _ (.tail _ g1)) ⟨rfl, ?_⟩
      rw [namesOf_step hq, if_neg (by simpa using hb)]
      exact hJ
  · intro g ys n1 hJ
    obtain ⟨rfl, hJ⟩ := hJ
    k_steps
    rename News h₀ _ _ _ => N3
    rw [g4.length, List.take_length] at hJ
    exact ret _ _ _ _ _ hJ (by k_asm) (news_sub N3 (by k_extra "SUB"))
end

-- part p09d_idname.lean
section
open PySem.Calls PyProof.V PySem.Spec
local macro_rules | `(tactic| walk_at "call ref") => `(tactic| k_extra "W13")

variable (w : World) {dp un : Nat} {gd : Option (List Code)} {env : Env} {outer : List Env} {h₀ : Heap} {L : Addr} {m : Str → Option Value} {s : Shared} {Q E : Value → Shared → Prop} {news Z : List (Addr × Obj)}
theorem words18 : True := by
  k_with "W32" => (k_here; (try dsimp only); k_dflt (refine' names_t _ ?C ?hs ?H ?he ?nd ?hl ?hd ?hu ?_); (case C => k_extra "CXC"); (case H => assumption); (case hs => walk_at "SUBI"); (case he => assumption); (case nd => assumption); (case hl => assumption); (case hd => ktr_room); (case hu => ktr_units); k_whole; (intro l ys n' h' tk' hys F' N'); (try dsimp only))
  trivial
local macro_rules | `(tactic| walk_at "call ref") => `(tactic| k_extra "W32")

def idN (rs : List (Str × Str)) : Option Str := (namesOf (st "ID") rs).head?
theorem idname_t {x : Addr} {tab : Tab} {e : Str} {te : Tok} {rs : List (Str × Str)} (C : Cx w outer h₀ L env m s.heap news) (hs : ∀ p ∈ Z, p ∈ news) (H : DtdIn w Z x tab) (he : tab.lookup e = some rs) (hnd : (rs.map (·.1)).Nodup) (hl : rs.length ≤ 3) (hok : ∀ p ∈ rs, PyData.strOk p.1 = true)
    (hd : dp + 4 < recursionLimit) (hu : un + 100 < cLine)
    (ret : ∀ (v : Value) h' tk', (match idN rs with | none => v = .none | some k => ∃ t, v = .str k t) → Fr h₀ L h' m → News h₀ L h' news → Q v { s with heap := h', toks := tk' }) :
    wpAny (model prg w) (aT dp un gd env outer) (call (.ref 210) [.ref x, .str e te]) Q E s := by
  refine C.elim ?_; intro A₀ base mean mg mb B T F N X hf hk
  have H0 := H
  refine E11_6 (H0) ?_; (try clear H0); intro dd k1 k2 k3 k4 rt ee a n oA kvs h1 h2 h3 h4 h5 h6
  have h1 := hs _ h1
  have h2 := hs _ h2
  k_extra "FILL"
  k_extra "ENTER"
  replace F' := Fr.of_eq (mk_binds [(st "element", .str e te), (st "self", .ref x)]) F'
  k_steps
  rename News _ _ _ _ => N3
  refine ne_strs N3 (.tail _ (.head _)) (.head _) hys .nil ?o1 (fun _ h => nomatch h) ?u ?_
  case o1 =>
    intro x hx
    refine E1_2 (List.mem_map.mp hx) ?_; intro p hp hq1; obtain rfl := hq1
    exact hok p (List.mem_filter.mp hp).1
  case u => ktr_units
  unfold idN at ret
  have hys' : StrsAre ys (namesOf (st "ID") rs) := hys
  generalize namesOf (Str.ofString "ID") rs = ns at hys ret hys'
  have drop2 : ∀ {h : Heap} {a b : Addr × Obj}, News h₀ L h (a :: b :: news) → News h₀ L h news := fun N => news_sub N fun p hp => .tail _ (.tail _ hp)
  cases hys with
  | nil =>
    k_steps
    exact ret _ _ _ rfl (by k_asm) (drop2 (by assumption))
  | cons x t r =>
    k_steps
    · rename (decide _ = true) => hb
      simp at hb
    · exact ret _ _ _ ⟨_, rfl⟩ (by k_asm) (drop2 (by assumption))
end

-- part p09e_lists.lean
section
open PySem.Calls PyProof.V PySem.Spec
theorem upd_of {D : Addr} {o o' : Obj} {post : List (Addr × Obj)} (c : ∀ p ∈ post, p.1 ≠ D) : ∀ {pre : List (Addr × Obj)}, (∀ p ∈ pre, p.1 ≠ D) → Upd D o o' (pre ++ (D, o) :: post) (pre ++ (D, o') :: post)
  | [], _ => .head c
  | p :: pre, a => .tail (a p (.head _)) (upd_of c fun q hq => a q (.tail _ hq))
section
variable {w : World} {A : Around} {E : Value → Shared → Prop} {s : Shared} {h₀ : Heap} {L D b : Addr} {m : Str → Option Value} {news news' : List (Addr × Obj)} {g : Obj → List (Addr × Obj)} {xs ys : List Value} {n n2 : Nat} {y : Value} {Q : Value → Shared → Prop}
theorem pop_L (F : Fr h₀ L s.heap m) (N : News h₀ L s.heap news) (U : UpdF D (lst (xs ++ [y]) n) news g) (hz : xs.length ≤ 1000)
    (h : ∀ h', Fr h₀ L h' m → News h₀ L h' (g (lst xs (n + 1))) → Q y { s with heap := h' }) : wpAny (model prg w) A (call (.builtin "list.pop") [.ref D]) Q E s := by
  refine E2_4 (U.split) ?_; intro pre post hq2 hg a c; obtain rfl := hq2
  refine kl_pop (its := (xs ++ [y]).toArray) F N (by simpa using kpa_last y xs) (upd_of c a) (by simp [sizeLine_eq]; omega) fun h' F' N' => h h' F' (by rw [hg]; exact N')
theorem extend_L (F : Fr h₀ L s.heap m) (N : News h₀ L s.heap news) (hb : (b, lst ys n2) ∈ news) (U : UpdF D (lst xs n) news g) (hx : xs.length ≤ 1000) (hy : ys.length ≤ 1000)
    (h : ∀ h' n', Fr h₀ L h' m → News h₀ L h' (g (lst (xs ++ ys) n')) → Q .none { s with heap := h' }) : wpAny (model prg w) A (call (.builtin "list.extend") [.ref D, .ref b]) Q E s := by
  refine E2_4 (U.split) ?_; intro pre post hq3 hg a c; obtain rfl := hq3
  have hd : ¬(!xs.toArray.isEmpty && Builtin.List.listTooLong (xs.toArray.size + ys.toArray.size)) = true := by
    have : Builtin.List.listTooLong (xs.toArray.size + ys.toArray.size) = false := by
      unfold Builtin.List.listTooLong
      simp only [List.size_toArray, decide_eq_false_iff_not]
      rw [sizeLine_eq]; omega
    rw [this]; simp
  by_cases hn : ys = []
  · subst hn
    refine kxn_extend (its := xs.toArray) (its2 := #[]) (n2 := n2) F N hb rfl (news' := pre ++ (D, listOf xs.toArray n) :: post) (upd_of c a) hd (by simp [sizeLine_eq]; omega) (by simp [sizeLine_eq]; omega) fun h' F' N' => h h' n F' (by rw [hg, List.append_nil]; exact N')
  · refine kl_extend (its := xs.toArray) (its2 := ys.toArray) (l := xs ++ ys) F N hb (by simp) (by simpa using hn) (news' := pre ++ (D, listOf (xs ++ ys).toArray (n + 1)) :: post) (upd_of c a) hd (by simp [sizeLine_eq]; omega) (by simp [sizeLine_eq]; omega) fun h' F' N' => h h' (n + 1) F' (by rw [hg]; exact N')
theorem rev_L {value slice : PySem.Expr} {ops : List Value} {vk : Value} (F : Fr h₀ L s.heap m) (N : News h₀ L s.heap news) (hm : (b, lst xs n) ∈ news) (pk : IsPart vk (some (-1))) (hz : xs.length ≤ 1000)
    (h : ∀ D h', (∀ p ∈ news, p.1 < D) → Fr h₀ L h' m → News h₀ L h' ((D, lst xs.reverse 0) :: news) → Q (.ref D) { s with heap := h' })
    (hs : subscripted slice false (.ref b) (.ref s.heap.objs.size) = operate ops (getItem (.ref b) (.ref s.heap.objs.size))) (ht : ∀ r, letTemporaryGo value (.ref b) r = pure ()) :
    wpAny (model prg w) A (subscriptTail value slice (.ref b) (.ref s.heap.objs.size)) Q E { s with heap := s.heap.push { cls := .type "slice", data := .fields #[.none, .none, vk] } } :=
  krv_lit (its := xs.toArray) (zs := xs.reverse) F N (isList_mem N hm) pk rfl (fun D h' F' N' l1 => h D h' l1 F' N') hs ht (by simp [sizeLine_eq]; omega)
end
section
variable {w : World} {A : Around} {E : Value → Shared → Prop} {s : Shared} {env : Env} {test : PySem.Expr} {body orelse : List Stmt} {Q : Flow → Shared → Prop} {h₀ : Heap} {L : Addr}
def WPost (h₀ : Heap) (L : Addr) (s : Shared) (J : Nat → (Str → Option Value) → List (Addr × Obj) → Prop) (n : Nat) (Q : Flow → Shared → Prop) (f : Flow) (s₂ : Shared) : Prop :=
  match f with
  | .next => ∃ h tk m' news' n', s₂ = { s with heap := h, toks := tk } ∧ n' < n ∧ Fr h₀ L h m' ∧ News h₀ L h news' ∧ J n' m' news'
  | .cont => ∃ h tk m' news' n', s₂ = { s with heap := h, toks := tk } ∧ n' < n ∧ Fr h₀ L h m' ∧ News h₀ L h news' ∧ J n' m' news'
  | .brk => Q .next s₂
  | .ret v => Q (.ret v) s₂
theorem WPost.fin {J : Nat → (Str → Option Value) → List (Addr × Obj) → Prop} {n : Nat} {h : Heap} {tk : Nat} {m' : Str → Option Value} {all : List (Addr × Obj)} (n' : Nat) (news' : List (Addr × Obj)) (F : Fr h₀ L h m') (N : News h₀ L h all) (sub : ∀ p ∈ news', p ∈ all) (hn : n' < n) (hj : J n' m' news') :
    WPost h₀ L s J n Q .next { s with heap := h, toks := tk } := ⟨h, tk, m', news', n', rfl, hn, F, fun p hp => N p (sub p hp), hj⟩
theorem while_J {k : Nat} (J : Nat → (Str → Option Value) → List (Addr × Obj) → Prop) (hE : PassesOwn (model prg w) A env E)
    (turn : Later (∀ n m news h tk, J n m news → Fr h₀ L h m → News h₀ L h news → wpAny (model prg w) A (isTrue test env (eval test env)) (fun b s₂ => WhlIf b (wpAny (model prg w) A (execs body env) (WPost h₀ L s J n Q) E s₂) (wpAny (model prg w) A (execs orelse env) Q E s₂)) E { s with heap := h, toks := tk })) :
    ∀ (n : Nat) m news h tk, J n m news → Fr h₀ L h m → News h₀ L h news → WhlRest prg w A E env test body orelse Q k { s with heap := h, toks := tk } := by
  intro n
  induction n using Nat.strongRecOn with
  | ind n ih =>
    intro m news h tk hj F N
    refine (whl_turn (k := k) hE ?_ : WhlRest prg w A E env test body orelse Q (k + 1) _)
    refine wpAny_mono (turn n m news h tk hj F N) (fun b s₂ h₂ => ?_) fun _ _ e => e
    cases b with
    | false => exact h₂
    | true =>
      unfold WhlIf at h₂ ⊢
      rw [if_pos rfl] at h₂ ⊢
      refine wpAny_mono h₂ (fun f s₃ h₃ => ?_) fun _ _ e => e
      cases f with
      | ret v => exact h₃
      | brk => exact h₃
      | next => refine E5_5 (h₃) ?_; (try clear h₃); intro h4 tk4 m4 n4 c hq4 hn F4 N4 j4; obtain rfl := hq4; exact ih c hn m4 n4 h4 tk4 j4 F4 N4
      | cont => refine E5_5 (h₃) ?_; (try clear h₃); intro h4 tk4 m4 n4 c hq5 hn F4 N4 j4; obtain rfl := hq5; exact ih c hn m4 n4 h4 tk4 j4 F4 N4
end
end

-- part p10_walk.lean
section
open PySem.Calls PyProof.V PySem.Spec
def whlTest : Option Stmt → PySem.Expr
  | some (.While t _ _ _) => t
  | _ => .Constant .none 0 default
def whlBody : Option Stmt → List Stmt
  | some (.While _ b _ _) => b
  | _ => []
noncomputable abbrev wT : PySem.Expr := whlTest (b_6.val[1]?)
noncomputable abbrev wB : List Stmt := whlBody (b_6.val[1]?)
noncomputable abbrev wE (L' : Addr) : Env := envOf (st "walk_elements") s_6.val L' 42 (.ref 41)
theorem words19 : True := by
  k_with "W33" => (k_here; (with_reducible show wpAny _ _ (compareOp CmpOp.NotEq (Value.ref _) (Value.ref _)) _ _ _); refine stopAt ?_)
  k_with "W34" => (k_here; k_dflt (refine' rev_L ?Fw9 ?Nw9 ?mw9 ?kw9 ?zw9 ?_ ?sw9 ?tw9; (case Fw9 => k_asm); (case Nw9 => k_asm); (case mw9 => k_mem); (case kw9 => exact IsPart.int _ _); (case sw9 => with_unfolding_all rfl); (case tw9 => kmk_pure); (case zw9 => omega)))
  k_with "W35" => (k_here; (try dsimp only); k_dflt (refine' pop_L ?Fw9 ?Nw9 ?Uw9 ?zw9 ?_; (case Fw9 => k_asm); (case Nw9 => k_asm); (case Uw9 => k_updF); (case zw9 => omega)))
  k_with "W36" => (k_here; (try dsimp only); k_dflt (refine' extend_L ?Fw9 ?Nw9 ?bw9 ?Uw9 ?xw9 ?yw9 ?_; (case Fw9 => k_asm); (case Nw9 => k_asm); (case bw9 => k_mem); (case Uw9 => k_updF); (case xw9 => omega); (case yw9 => (simp only [List.length_reverse]; omega))))
  trivial
local macro_rules | `(tactic| walk_at "call ref") => `(tactic| k_extra "W13")
local macro_rules | `(tactic| k_all) => `(tactic| k_extra "W30")
local macro_rules | `(tactic| walk_at "compareOp NotEq ref ref") => `(tactic| k_extra "W33")
local macro_rules | `(tactic| walk_at "WhlRest") => `(tactic| refine stopAt ?_)
local macro_rules | `(tactic| walk_at "subscriptTail Name Slice ref ref") => `(tactic| (k_extra "W34"; intro D' h' l1 F' N'; (try k_lt l1); (try dsimp only)))
local macro_rules | `(tactic| walk_at "call builtin:list.pop") => `(tactic| (k_extra "W35"; intro h' F' N'; (try dsimp only at N'); (try dsimp only)))
local macro_rules | `(tactic| walk_at "call builtin:list.extend") => `(tactic| (k_extra "W36"; intro h' n' F' N'; (try dsimp only at N'); (try dsimp only)))

theorem TreeIn.mono {P : Params} {news news' : List (Addr × Obj)} {t td rl : Addr} {rn : Nat} {tk : Tok} {rows : List NR} (s : ∀ p ∈ news, p ∈ news') (h : TreeIn P news t td rl rn tk rows) : TreeIn P news' t td rl rn tk rows :=
  ⟨s _ h.h1, s _ h.h2, s _ h.h3, fun R hR p hp => s _ (h.h4 R hR p hp), h.sz, h.szk⟩
inductive WalkR (rows : List NR) : List Int → List Int → Nat → Prop
  | nil : WalkR rows [] [] 0
  | skip {x : Int} {st out : List Int} {n : Nat} {R : NR} : 0 ≤ x → rows[x.toNat]? = some R → R.kind ≠ Str.ofString "element" → WalkR rows st out n → WalkR rows (x :: st) out (n + 1)
  | elem {x : Int} {st out ks : List Int} {n : Nat} {R : NR} : 0 ≤ x → rows[x.toNat]? = some R → R.kind = Str.ofString "element" → IntsAre R.kv ks → WalkR rows (ks ++ st) out n → WalkR rows (x :: st) (x :: out) (n + 1)
theorem WalkR.len {rows : List NR} {st out : List Int} {n : Nat} (h : WalkR rows st out n) : st.length ≤ n ∧ out.length ≤ n := by
  induction h with
  | nil => exact ⟨Nat.le_refl _, Nat.le_refl _⟩
  | skip _ _ _ _ ih => simp; omega
  | elem _ _ _ _ _ ih => simp at ih ⊢; omega
theorem ints_snoc : ∀ {vs : List Value} {l : List Int} {x : Int}, IntsAre vs (l ++ [x]) → ∃ vs' t, vs = vs' ++ [.int x t] ∧ IntsAre vs' l
  | _, [], x, h => by
    cases h with
    | cons n t r => cases r; exact ⟨[], t, rfl, .nil⟩
  | _, y :: l, x, h => by
    cases h with
    | cons n t r =>
      refine E2_2 (ints_snoc r) ?_; intro vs' t' hq6 h'; obtain rfl := hq6
      exact ⟨_ :: vs', t', rfl, .cons _ _ h'⟩
theorem ints_append {vs vs' : List Value} {xs xs' : List Int} (h : IntsAre vs xs) (h' : IntsAre vs' xs') : IntsAre (vs ++ vs') (xs ++ xs') := by
  induction h with
  | nil => exact h'
  | cons x t _ ih => exact .cons x t ih
def walkJ (rows : List NR) (tr : Addr) (k : Int) (ti : Tok) (lf ll : Addr) (total : List Int) (news : List (Addr × Obj)) : Nat → (Str → Option Value) → List (Addr × Obj) → Prop := fun n m nn => ∃ ov fv fs sv stk nf nl out,
  m = mk [(st "node", ov), (st "left", some (.ref ll)), (st "found", some (.ref lf)), (st "root", some (.int k ti)), (st "tree", some (.ref tr))] ∧ nn = (ll, lst sv nl) :: (lf, lst fv nf) :: news ∧ IntsAre sv (List.reverse stk) ∧ WalkR rows stk out n ∧ IntsAre fv fs ∧ fs ++ out = total ∧ n ≤ 1000
variable (w : World) {dp un : Nat} {gd : Option (List Code)} {env : Env} {outer : List Env} {h₀ : Heap} {L : Addr} {m : Str → Option Value} {s : Shared} {Q E : Value → Shared → Prop} {news Z : List (Addr × Obj)}
    {t td rl : Addr} {rn : Nat} {tk : Tok} {rows : List NR} {k : Int} {ti : Tok} {R : NR}
theorem words20 : True := by
  k_with "TREE" => (refine' TreeIn.mono ?hs9 ?hT9; (case hT9 => assumption); (case hs9 => walk_at "SUBI"))
  k_with "RD" => ((case C => k_extra "CXC"); (case hT => k_extra "TREE"); (case h0 => k_asm); (case hi => k_asm); (case hd => ktr_room); (case hu => ktr_units); k_whole)
  k_with "W37" => (k_here; (try dsimp only); k_dflt (first | (refine' children_t _ ?C ?hT ?h0 ?hi ?hd ?hu ?_; k_extra "RD"; (intro lc' nc' h' tk' l1 F' N'); (try k_lt l1); (try dsimp only)) | (refine' kind_t _ ?C ?hT ?h0 ?hi ?hd ?hu ?_; k_extra "RD"; (intro h' tk' F' N'); (try dsimp only))))
  trivial
local macro_rules | `(tactic| walk_at "call ref") => `(tactic| k_extra "W37")

theorem while_walk {lf ll : Addr} {st0 out : List Int} {n₀ kk nf nl : Nat} {sv fv : List Value} {fs : List Int} {tkE : Nat} {L' : Addr} {h' g₀ base : Heap} {mean : ExcName → Option Value} {mg mb : Str → Option Value} {QF : Flow → Shared → Prop} {ov : Option Value}
    (B : Below (aT dp un gd env outer) base (env :: outer) g₀) (X : (KF w.params).In g₀) (T : Top q (looseW q loose) mean mg mb g₀)
    (hT : TreeIn w.params news t td rl rn tk rows)
    (F : Fr g₀ (wE L').locals h' (mk [(st "node", ov), (st "left", some (.ref ll)), (st "found", some (.ref lf)), (st "root", some (.int k ti)), (st "tree", some (.ref t))])) (N : News g₀ (wE L').locals h' ((ll, lst sv nl) :: (lf, lst fv nf) :: news))
    (hlf : ∀ p ∈ news, p.1 < lf) (hll : ∀ p ∈ news, p.1 < ll) (hne : @LT.lt Nat _ lf ll) (hs : IntsAre sv st0.reverse) (hW : WalkR rows st0 out n₀) (hn : n₀ ≤ 1000) (hfs : IntsAre fv fs) (hfl : fs.length ≤ 1000)
    (hd : dp + 3 < recursionLimit) (hu : un + 100 < cLine) (hP : PassesOwn (model prg w) ((aT dp un gd env outer).deeper (wE L')) (wE L') E)
    (done : ∀ m h' tk' (nf : Nat) (fv : List Value), IntsAre fv (fs ++ out) → (∃ ov, m = mk [(st "node", ov), (st "left", some (.ref ll)), (st "found", some (.ref lf)), (st "root", some (.int k ti)), (st "tree", some (.ref t))]) → Fr g₀ (wE L').locals h' m → News g₀ (wE L').locals h' ((lf, lst fv nf) :: news) → QF .next { s with heap := h', toks := tk' }) :
    WhlRest prg w ((aT dp un gd env outer).deeper (wE L')) E (wE L') wT wB [] QF kk { s with heap := h', toks := tkE } := by
  k_extra "FILL"
  have m1 := hT.h1
  have m2 := hT.h2
  refine' while_J (s := s) (walkJ rows t k ti lf ll (fs ++ out) news) hP (goOn ?turn) n₀ _ _ _ _ ⟨ov, fv, fs, sv, st0, nf, nl, out, rfl, rfl, hs, hW, hfs, rfl, hn⟩ F N
  intro n m1 nn h1 tk1 hJ F2 N2
  try k_fold
  have hol := hW.len.2
  clear N F hs hW hfs
  refine E8_7 (hJ) ?_; (try clear hJ); intro ov fv fs1 sv stk nf nl ou hq7 hq8 hsv hw hfs hout hn1; obtain rfl := hq7; obtain rfl := hq8
  have hlen := hw.len
  have hfv := hfs.length
  have hot := congrArg List.length hout
  simp only [List.length_append] at hot
  have hfvl : fv.length ≤ 3000 := by omega
  clear hot hfv
  with_unfolding_all change wpAny _ _ (isTrue (Expr.Compare _ _ _ _) _ _) _ _ _
  k_steps
  refine goOn ?_
  rename News _ _ _ _ => N3
  refine ke_ne_ints (isList_mem N3 (.tail _ (.head _))) (isList_mem N3 (.head _)) hsv .nil ?un ?_
  case un => ktr_units
  cases hw with
  | nil =>
    rw [show (!decide (List.reverse ([] : List Int) = [])) = false from rfl]
    k_steps
    rename Fr g₀ _ _ _ => F4
    rw [List.append_nil] at hout
    exact done _ _ _ _ _ (hout ▸ hfs) ⟨ov, rfl⟩ F4 (news_sub N3 (by k_extra "SUB"))
  | @skip x9 st9 _ n9 R9 g0 g1 g2 g3 =>
    rw [show ∀ (x : Int) (l : List Int), (!decide (List.reverse (x :: l) = [])) = true from fun x l => by simp]
    rw [List.reverse_cons] at hsv
    refine E2_2 (ints_snoc hsv) ?_; intro sv' tx hq9 hsv'; obtain rfl := hq9
    have hlen2 := hsv'.length
    rw [List.length_reverse] at hlen2
    simp only [List.length_cons] at hlen
    have hl3 := (hT.szk R9 (List.mem_of_getElem? g1)).1
    k_steps
    · rename (_ = true) => hb
      exact absurd (by simpa using hb) g2
    · rename Fr g₀ _ _ _ => F4
      rename News _ _ _ _ => N4
      refine WPost.fin _ ((ll, lst sv' _) :: (lf, lst fv nf) :: news) F4 N4 (by k_extra "SUB") (Nat.lt_succ_self _) ⟨some (.int x9 tx), fv, fs1, sv', st9, nf, _, ou, ?_, rfl, hsv', g3, hfs, hout, by omega⟩
      k_extra "MAP"
  | @elem x9 st9 ou9 ks9 n9 R9 g0 g1 g2 gk g3 =>
    rw [show ∀ (x : Int) (l : List Int), (!decide (List.reverse (x :: l) = [])) = true from fun x l => by simp]
    rw [List.reverse_cons] at hsv
    refine E2_2 (ints_snoc hsv) ?_; intro sv' tx hq0 hsv'; obtain rfl := hq0
    have hlen2 := hsv'.length
    rw [List.length_reverse] at hlen2
    simp only [List.length_cons] at hlen
    have hkl := gk.length
    have hl3 := (hT.szk R9 (List.mem_of_getElem? g1)).1
    k_steps
    · rename Fr g₀ _ _ _ => F4
      rename News _ _ _ _ => N4
      refine WPost.fin n9 ((ll, lst (sv' ++ R9.kv.reverse) _) :: (lf, lst (fv ++ [.int x9 tx]) _) :: news) F4 N4 (by k_extra "SUB") (Nat.lt_succ_self _) ⟨some (.int x9 tx), fv ++ [.int x9 tx], fs1 ++ [x9], sv' ++ R9.kv.reverse, ks9 ++ st9, _, _, ou9, ?_, rfl, ?_, g3, ints_append hfs (.cons _ _ .nil), ?_, by omega⟩
      · k_extra "MAP"
      · rw [List.reverse_append]; exact ints_append hsv' gk.reverse
      · rw [List.append_assoc]; exact hout
    · rename (_ = false) => hb
      rw [g2] at hb
      simp at hb
theorem walk_t {ks out : List Int} {n₀ : Nat} (C : Cx w outer h₀ L env m s.heap news) (hT : TreeIn w.params news t td rl rn tk rows) (h0 : 0 ≤ k) (hi : rows[k.toNat]? = some R) (hks : IntsAre R.kv ks) (hW : WalkR rows ks out n₀) (hn : n₀ ≤ 1000)
    (hd : dp + 3 < recursionLimit) (hu : un + 100 < cLine)
    (ret : ∀ l vs n h' tk', (∀ p ∈ news, p.1 < l) → IntsAre vs out → Fr h₀ L h' m → News h₀ L h' ((l, lst vs n) :: news) → Q (.ref l) { s with heap := h', toks := tk' }) :
    wpAny (model prg w) (aT dp un gd env outer) (call (.ref 42) [.ref t, .int k ti]) Q E s := by
  refine C.elim ?_; intro A₀ base mean mg mb B T F N X hf hk
  k_extra "FILL"
  have m1 := hT.h1
  have m2 := hT.h2
  refine E0_7 (hT.row hi) ?_; intro r1 r2 r3 r4 hlen z1 z2
  k_extra "ENTER"
  replace F' := Fr.of_eq (mk_binds [(st "root", .int k ti), (st "tree", .ref t)]) F'
  k_steps
  refine goOn ?_
  rename News _ _ _ _ => N1
  rename Fr g' _ _ _ => F1
  replace F1 := Fr.of_eq (L := (wE L').locals) (m' := mk [(st "node", none), (st "left", some (.ref _)), (st "found", some (.ref _)), (st "root", some (.int k ti)), (st "tree", some (.ref t))]) (mk_of2 (by k_extra "OFFM") rfl) F1
  refine' while_walk w (L' := L') (s := s) (ov := none) (sv := R.kv.reverse) (fv := []) (nf := 0) (nl := 0) (fs := []) B' X' T' hT F1 (news_sub N1 ?sb) ?hlf ?hll ?hne hks.reverse hW hn .nil (by decide) hd hu ?pE ?dn
  case sb => k_extra "SUB"
  case hlf => first | assumption | exact allLt_out (by assumption)
  case hll => first | assumption | exact allLt_out (by assumption)
  case hne => omega
  case pE => passes_own
  case dn =>
    intro m2 h2 tk2 nf fv hfv hm2 F2 N2
    try k_fold
    obtain ⟨ov, rfl⟩ := hm2
    k_steps
    exact ret _ _ _ _ _ (by assumption) hfv (by k_asm) (by k_asm)
end

-- part p11_idof.lean
section
open PySem.Calls PyProof.V PySem.Spec
local macro_rules | `(tactic| walk_at "call ref") => `(tactic| k_extra "W13")
local macro_rules | `(tactic| k_all) => `(tactic| k_extra "W30")
local macro_rules | `(tactic| walk_at "compareOp NotEq ref ref") => `(tactic| k_extra "W33")
local macro_rules | `(tactic| walk_at "WhlRest") => `(tactic| refine stopAt ?_)
local macro_rules | `(tactic| walk_at "subscriptTail Name Slice ref ref") => `(tactic| (k_extra "W34"; intro D' h' l1 F' N'; (try k_lt l1); (try dsimp only)))
local macro_rules | `(tactic| walk_at "call builtin:list.pop") => `(tactic| (k_extra "W35"; intro h' F' N'; (try dsimp only at N'); (try dsimp only)))
local macro_rules | `(tactic| walk_at "call builtin:list.extend") => `(tactic| (k_extra "W36"; intro h' n' F' N'; (try dsimp only at N'); (try dsimp only)))

structure AI where
  node : Int
  name : Str
  words : List Str
def AttrIs (rows : List NR) (v : Value) (a : AI) : Prop := ∃ t R, v = .int a.node t ∧ 0 ≤ a.node ∧ rows[a.node.toNat]? = some R ∧ R.name = a.name ∧ (spl R.value (R.value.length + 1)).1 = a.words ∧ R.value.length ≤ 1000
def OptStr (v : Value) : Option Str → Prop
  | none => v = .none
  | some k => ∃ t, v = .str k t
def one? : List Str → Option Str
  | [x] => some x
  | _ => none
def idP (rs : List (Str × Str)) (as : List AI) : Option Str := match idN rs with
  | none => none
  | some nm => match as.find? fun a => decide (a.name = nm) with
    | none => none
    | some a => one? a.words
theorem find_hit {α : Type} {p : α → Bool} {a : α} : ∀ {l : List α} {i : Nat}, (l.take i).find? p = none → l[i]? = some a → p a = true → l.find? p = some a
  | [], _, _, h, _ => by simp at h
  | b :: l, 0, _, h, e => by
    have : b = a := by simpa using h
    subst this; simp [e]
  | b :: l, i + 1, h0, h, e => by
    rw [List.take_succ_cons, List.find?_cons] at h0
    rw [List.find?_cons]
    cases hb : p b with
    | true => rw [hb] at h0; cases h0
    | false => rw [hb] at h0; exact find_hit h0 (by simpa using h) e
theorem find_miss {α : Type} {p : α → Bool} {a : α} {l : List α} {i : Nat} (h0 : (l.take i).find? p = none) (h : l[i]? = some a) (e : p a = false) : (l.take (i + 1)).find? p = none := by
  rw [List.take_succ, h, List.find?_append, h0]
  simp [e]
def idJ (tr x lc : Addr) (k : Int) (ti tn : Tok) (nm : Str) (as : List AI) (news : List (Addr × Obj)) : Jt := fun i m n => ∃ op oa,
  m = mk [(st "parts", op), (st "attribute", oa), (st "name", some (.str nm tn)), (st "dtd", some (.ref x)), (st "element", some (.int k ti)), (st "tree", some (.ref tr))] ∧ n = news ∧ (as.take i).find? (fun a => decide (a.name = nm)) = none
variable (w : World) {dp un : Nat} {gd : Option (List Code)} {env : Env} {outer : List Env} {h₀ : Heap} {L : Addr} {m : Str → Option Value} {s : Shared} {Q E : Value → Shared → Prop} {news Z : List (Addr × Obj)}
    {t td rl : Addr} {rn : Nat} {tk : Tok} {rows : List NR} {k : Int} {ti : Tok} {R : NR}
theorem words22 : True := by
  k_with "W38" => (k_here; (try dsimp only); k_dflt (first | (refine' attributes_t _ ?C ?hT ?h0 ?hi ?hd ?hu ?_; k_extra "RD"; (intro lc' nc' h' tk' l1 F' N'); (try k_lt l1); (try dsimp only)) | (refine' name_t _ ?C ?hT ?h0 ?hi ?hd ?hu ?_; k_extra "RD"; (intro h' tk' F' N'); (try dsimp only)) | (refine' value_t _ ?C ?hT ?h0 ?hi ?hd ?hu ?_; k_extra "RD"; (intro h' tk' F' N'); (try dsimp only)) | (refine' space_split_t _ ?C ?hx ?hd ?hu ?_; (case C => k_extra "CXC"); (case hx => k_asm); (case hd => ktr_room); (case hu => ktr_units); k_whole; (intro lp vp np h' tk' l1 hvp F' N'); (try k_lt l1); (try dsimp only)) | (refine' idname_t _ ?C ?hs ?H ?he ?nd ?hl ?ok ?hd ?hu ?_; (case C => k_extra "CXC"); (case H => assumption); (case hs => walk_at "SUBI"); (case he => k_asm); (case nd => assumption); (case hl => assumption); (case ok => assumption); (case hd => ktr_room); (case hu => ktr_units); k_whole; (intro vn h' tk' hvn F' N'); (try dsimp only))))
  trivial
local macro_rules | `(tactic| walk_at "call ref") => `(tactic| k_extra "W38")

local macro_rules | `(tactic| walk_at "PAD") => `(tactic| fail)
theorem idof_t {x : Addr} {tab : Tab} {rs : List (Str × Str)} {as : List AI} (C : Cx w outer h₀ L env m s.heap news) (hT : TreeIn w.params news t td rl rn tk rows) (h0 : 0 ≤ k) (hi : rows[k.toNat]? = some R)
    (hs : ∀ p ∈ Z, p ∈ news) (H : DtdIn w Z x tab) (he : tab.lookup R.name = some rs) (hnd : (rs.map (·.1)).Nodup) (hl : rs.length ≤ 3) (hok : ∀ p ∈ rs, PyData.strOk p.1 = true) (ha : All2 (AttrIs rows) R.av as)
    (hd : dp + 5 < recursionLimit) (hu : un + 120 < cLine)
    (ret : ∀ v h' tk', OptStr v (idP rs as) → Fr h₀ L h' m → News h₀ L h' news → Q v { s with heap := h', toks := tk' }) :
    wpAny (model prg w) (aT dp un gd env outer) (call (.ref 49) [.ref t, .int k ti, .ref x]) Q E s := by
  refine C.elim ?_; intro A₀ base mean mg mb B T F N X hf hk
  have H0 := H
  refine E11_6 (H0) ?_; (try clear H0); intro dd k1 k2 k3 k4 rt ee a n oA kvs h1 h2 h3 h4 h5 h6
  have h1 := hs _ h1
  have h2 := hs _ h2
  k_extra "FILL"
  have m1 := hT.h1
  have m2 := hT.h2
  refine E0_7 (hT.row hi) ?_; intro r1 r2 r3 r4 hlen z1 z2
  k_extra "ENTER"
  replace F' := Fr.of_eq (mk_binds [(st "dtd", .ref x), (st "element", .int k ti), (st "tree", .ref t)]) F'
  k_steps
  unfold idP at ret
  cases hN : idN rs with
  | none =>
    rw [hN] at hvn ret
    dsimp only at hvn ret
    subst hvn
    k_steps
    exact ret _ _ _ rfl (by k_asm) (by k_asm)
  | some nm =>
    rw [hN] at hvn ret
    dsimp only at hvn ret
    obtain ⟨tn, rfl⟩ := hvn
    k_steps
    refine goOn ?_
    rename News _ _ _ _ => N1
    rename Fr g' _ _ _ => F1
    refine' for_list_J (idJ t x lc' k ti tn nm as ((lc', lst R.av nc') :: news)) rfl (Fr.of_eq ?mp F1) N1 (.head _) ⟨none, none, rfl, rfl, rfl⟩ (goOn ?turn) (goOn ?done)
    case mp => exact mk_of2 (by k_extra "OFFM") rfl
    case turn =>
      intro I i v m1 n1 it h3 tk3 hv hI hoff hm hJ hc F2 N2
      try k_fold
      refine E2_3 (hJ) ?_; (try clear hJ); intro op oa hq1 hq2 hfi; obtain rfl := hq1; obtain rfl := hq2
      refine E1_2 (ha.get hv) ?_; intro ai hai hr3; refine E2_6 (hr3) ?_; (try clear hr3); intro ta RA hq4 a0 ra hna hwa hla; obtain rfl := hq4
      k_steps
      · rename (_ = true) => hb
        have hvl : vp.length ≤ 2000 := by rw [hvp.len_eq]; have := spl_len RA.value (RA.value.length + 1); omega
        rw [hwa] at hvp
        rw [find_hit hfi hai (decide_eq_true (hna ▸ (by simpa using hb)))] at ret
        dsimp only at ret
        generalize ai.words = ws at hvp ret
        cases hvp with
        | nil =>
          k_steps
          all_goals first
            | (rename (_ = (1 : Int)) => hz; exfalso; simp only [List.length_cons, List.length_nil] at hz; omega)
            | (rename (_ ≠ (1 : Int)) => hz; exfalso; simp only [List.length_cons, List.length_nil] at hz; omega)
            | (refine JPost.ret ?_; k_steps; (rename News h₀ _ _ _ => N3); exact ret _ _ _ rfl (by k_asm) (news_sub N3 (by k_extra "SUB")))
        | cons x1 t1 r1 => cases r1 with
          | nil =>
            k_steps
            all_goals first
              | (rename (_ = (1 : Int)) => hz; exfalso; simp only [List.length_cons, List.length_nil] at hz; omega)
              | (rename (_ ≠ (1 : Int)) => hz; exfalso; simp only [List.length_cons, List.length_nil] at hz; omega)
              | (refine JPost.ret ?_; k_steps; (rename News h₀ _ _ _ => N3); exact ret _ _ _ ⟨_, rfl⟩ (by k_asm) (news_sub N3 (by k_extra "SUB")))
          | cons x2 t2 r2 =>
            k_steps
            all_goals first
              | (rename (_ = (1 : Int)) => hz; exfalso; simp only [List.length_cons, List.length_nil] at hz; omega)
              | (rename (_ ≠ (1 : Int)) => hz; exfalso; simp only [List.length_cons, List.length_nil] at hz; omega)
              | (refine JPost.ret ?_; k_steps; (rename News h₀ _ _ _ => N3); exact ret _ _ _ rfl (by k_asm) (news_sub N3 (by k_extra "SUB")))
      · rename (_ = false) => hb
        rename Fr g' _ _ _ => F3
        rename News _ _ _ _ => N3
        refine JPost.fin ((lc', lst R.av nc') :: news) F3 N3 (by k_extra "SUB") (fun p hp => hoff p hp) ⟨.head _, op, some (.int ai.node ta), ?_, rfl, find_miss hfi hai (decide_eq_false (hna ▸ (by simpa using hb)))⟩
        k_extra "MAP"
    case done =>
      intro m1 n1 h3 tk3 hm hJ F2 N2
      try k_fold
      refine E2_3 (hJ) ?_; (try clear hJ); intro op oa hq5 hq6 hfi; obtain rfl := hq5; obtain rfl := hq6
      rw [ha.length, List.take_length] at hfi
      rw [hfi] at ret
      k_steps
      rename News h₀ _ _ _ => N3
      exact ret _ _ _ rfl (by k_asm) (news_sub N3 (by k_extra "SUB"))
end

-- part p12_idtable.lean
section
open PySem.Calls PyProof.V PySem.Spec
theorem words23 : True := by
  k_with "RD.2" => ((case C => k_extra "CXC"); (case hT => k_extra "TREE"); (case h0 => k_asm); (case hi => k_asm); (case hd => ktr_room); (case hu => ktr_units))
  k_with "RDTD" => ((case H => assumption); (case hs => walk_at "SUBI"); (case he => k_asm))
  trivial
local macro_rules | `(tactic| walk_at "call ref") => `(tactic| k_extra "W13")

structure EI where
  node : Int
  rs : List (Str × Str)
  as : List AI
def RsOk (rs : List (Str × Str)) : Prop := (rs.map (·.1)).Nodup ∧ rs.length ≤ 3 ∧ ∀ p ∈ rs, PyData.strOk p.1 = true
def ElemIs (rows : List NR) (tab : Tab) (x : Int) (e : EI) : Prop := ∃ R, 0 ≤ x ∧ e.node = x ∧ rows[x.toNat]? = some R ∧ tab.lookup R.name = some e.rs ∧ RsOk e.rs ∧ All2 (AttrIs rows) R.av e.as
abbrev idE (e : EI) : Option Str := idP e.rs e.as
abbrev IsInt (v : Value) (n : Int) : Prop := ∃ t, v = .int n t
def tblStep (acc : List (Str × Int)) (e : EI) : List (Str × Int) := match idE e with
  | none => acc
  | some k => match acc.lookup k with
    | none => acc ++ [(k, e.node)]
    | some _ => acc
def tblP (es : List EI) : List (Str × Int) := es.foldl tblStep []
theorem tblP_step {es : List EI} {i : Nat} {e : EI} (h : es[i]? = some e) : tblP (es.take (i + 1)) = tblStep (tblP (es.take i)) e := by
  unfold tblP
  rw [List.take_succ, h, List.foldl_append]
  rfl
theorem tblStep_len (acc : List (Str × Int)) (e : EI) : (tblStep acc e).length ≤ acc.length + 1 := by
  unfold tblStep
  split
  · omega
  · split
    · simp
    · omega
theorem tblP_len (es : List EI) : (tblP es).length ≤ es.length := by
  unfold tblP
  have : ∀ (es : List EI) (acc : List (Str × Int)), (es.foldl tblStep acc).length ≤ acc.length + es.length := by
    intro es
    induction es with
    | nil => intro acc; simp
    | cons e es ih => intro acc; have := ih (tblStep acc e); have := tblStep_len acc e; simp only [List.foldl_cons, List.length_cons]; omega
  simpa using this es []
theorem ints_get {vs : List Value} {xs : List Int} (h : IntsAre vs xs) : ∀ {i : Nat} {v : Value}, vs[i]? = some v → ∃ x t, v = .int x t ∧ xs[i]? = some x := by
  induction h with
  | nil => intro i v e; simp at e
  | cons x t _ ih =>
    intro i v e
    cases i with
    | zero => simp at e; subst e; exact ⟨x, t, rfl, rfl⟩
    | succ i => simp at e; simpa using ih e
variable (w : World) {dp un : Nat} {gd : Option (List Code)} {env : Env} {outer : List Env} {h₀ : Heap} {L : Addr} {m : Str → Option Value} {s : Shared} {Q E : Value → Shared → Prop} {news Z : List (Addr × Obj)}
    {t td rl : Addr} {rn : Nat} {tk : Tok} {rows : List NR} {k : Int} {ti : Tok} {R : NR}
theorem words24 : True := by
  k_with "W39" => (k_here; (try dsimp only); k_dflt (first | (refine' walk_t _ ?C ?hT ?h0 ?hi ?ks ?W ?n ?hd ?hu ?_; k_extra "RD.2"; (case ks => assumption); (case W => assumption); (case n => assumption); k_whole; (intro lw vw nw h' tk' l1 hvw F' N'); (try k_lt l1); (try dsimp only)) | (refine' idof_t _ ?C ?hT ?h0 ?hi ?hs ?H ?he ?nd ?hl ?ok ?ha ?hd ?hu ?_; k_extra "RD.2"; k_extra "RDTD"; (case nd => assumption); (case hl => assumption); (case ok => assumption); (case ha => assumption); k_whole; (intro vt h' tk' hvt F' N'); (try dsimp only))))
  trivial
local macro_rules | `(tactic| walk_at "call ref") => `(tactic| k_extra "W39")

def tblJ (w : World) (tr x lw d : Addr) (k : Int) (ti : Tok) (es : List EI) (ow : Obj) (news : List (Addr × Obj)) : Jt := fun i m n => ∃ ot oe od kvs,
  m = mk [(st "told", ot), (st "element", oe), (st "found", some (.ref d)), (st "dtd", some (.ref x)), (st "root", some (.int k ti)), (st "tree", some (.ref tr))] ∧ n = (lw, ow) :: (d, od) :: news ∧ od.IsDictOf (PySem.strKind prg w) kvs ∧ All2 (KV IsInt) kvs (tblP (es.take i))
theorem idtable_t {x : Addr} {tab : Tab} {ks out : List Int} {n₀ : Nat} {es : List EI} (C : Cx w outer h₀ L env m s.heap news) (hT : TreeIn w.params news t td rl rn tk rows) (h0 : 0 ≤ k) (hi : rows[k.toNat]? = some R)
    (hks : IntsAre R.kv ks) (hW : WalkR rows ks out n₀) (hn : n₀ ≤ 1000) (hE : All2 (ElemIs rows tab) out es) (hs : ∀ p ∈ Z, p ∈ news) (H : DtdIn w Z x tab)
    (hd : dp + 6 < recursionLimit) (hu : un + 140 < cLine)
    (ret : ∀ d od kvs h' tk', (∀ p ∈ news, p.1 < d) → (d == sysModules) = false → od.IsDictOf (PySem.strKind prg w) kvs → All2 (KV IsInt) kvs (tblP es) → Fr h₀ L h' m → News h₀ L h' ((d, od) :: news) → Q (.ref d) { s with heap := h', toks := tk' }) :
    wpAny (model prg w) (aT dp un gd env outer) (call (.ref 56) [.ref t, .int k ti, .ref x]) Q E s := by
  refine C.elim ?_; intro A₀ base mean mg mb B T F N X hf hk
  have H0 := H
  refine E11_6 (H0) ?_; (try clear H0); intro dd k1 k2 k3 k4 rt ee a n oA kvs h1 h2 h3 h4 h5 h6
  have h1 := hs _ h1
  have h2 := hs _ h2
  k_extra "FILL"
  have m1 := hT.h1
  have m2 := hT.h2
  k_extra "ENTER"
  replace F' := Fr.of_eq (mk_binds [(st "dtd", .ref x), (st "root", .int k ti), (st "tree", .ref t)]) F'
  k_steps
  refine goOn ?_
  rename News _ _ _ _ => N1
  rename Fr g' _ _ _ => F1
  replace F1 := Fr.of_eq (m' := mk [(st "told", none), (st "element", none), (st "found", some (.ref _)), (st "dtd", some (.ref x)), (st "root", some (.int k ti)), (st "tree", some (.ref t))]) (mk_of2 (by k_extra "OFFM") rfl) F1
  have heo : es.length ≤ 1000 := by rw [← hE.length]; have := hW.len; omega
  refine' for_list_J (tblJ w t x lw _ k ti es (lst vw nw) news) rfl F1 N1 (.head _) ⟨none, none, _, [], rfl, rfl, ?dk, trivial⟩ (goOn ?turn) (goOn ?done)
  case dk => assumption
  case turn =>
    intro I i v m1 n1 it h3 tk3 hv hI hoff hm hJ hc F2 N2
    try k_fold
    refine E4_4 (hJ) ?_; (try clear hJ); intro ot oe od kvs hq7 hq8 hod hkv; obtain rfl := hq7; obtain rfl := hq8
    refine E2_2 (ints_get hvw hv) ?_; intro xe te hq9 hxe; obtain rfl := hq9
    refine E1_2 (hE.get hxe) ?_; intro e hei hr0; refine E1_6 (hr0) ?_; (try clear hr0); intro RE e0 een er etab hp1 eav; refine E0_3 (hp1) ?_; (try clear hp1); intro ernd erl erok
    have hId : @Ne Nat I _ := fun e => hoff _ (.tail _ (.head _)) e.symm
    have hkl := hkv.length
    have htl := tblP_len (es.take i)
    have htl2 : (es.take i).length ≤ 1000 := by rw [List.length_take]; omega
    have hkz : kvs.length ≤ 1000 := by omega
    k_steps
    have hst := tblP_step hei
    unfold tblStep at hst
    cases hid : idE e with
    | none =>
      rw [show idP e.rs e.as = none from hid] at hvt
      replace hvt : vt = .none := hvt
      subst hvt
      rw [hid] at hst
      dsimp only at hst
      k_steps
      rename Fr g' _ _ _ => F3
      rename News _ _ _ _ => N3
      refine JPost.fin ((lw, lst vw nw) :: (_, od) :: news) F3 N3 (by k_extra "SUB") hoff ⟨.head _, some .none, some (.int xe te), od, kvs, ?_, rfl, hod, by rw [hst]; exact hkv⟩
      k_extra "MAP"
    | some k9 =>
      rw [show idP e.rs e.as = some k9 from hid] at hvt
      obtain ⟨t9, rfl⟩ := hvt
      rw [hid] at hst
      dsimp only at hst
      cases hlk : (tblP (es.take i)).lookup k9 with
      | none =>
        have hv9 := kv_none hkv hlk
        rw [hlk] at hst
        dsimp only at hst
        k_steps
        rename Fr g' _ _ _ => F3
        rename News _ _ _ _ => N3
        rename Obj.IsDictOf _ _ (stored _ _ _) => hd9
        rw [stored_absent hv9] at hd9
        refine JPost.fin ((lw, lst vw nw) :: (_, _) :: news) F3 N3 (by k_extra "SUB") (fun p hp => ?_) ⟨.head _, some (.str k9 t9), some (.int xe te), _, _, ?_, rfl, hd9, by rw [hst]; exact All2.append hkv ⟨⟨rfl, te, by rw [een]⟩, trivial⟩⟩
        · rcases List.mem_cons.mp hp with rfl | hp
          · exact hoff _ (.head _)
          · rcases List.mem_cons.mp hp with rfl | hp
            · exact Ne.symm hId
            · exact hoff _ (.tail _ (.tail _ hp))
        · k_extra "MAP"
      | some n9 =>
        refine E1_2 (kv_some hkv hlk) ?_; intro v9 hv9 hr2; obtain ⟨t8, rfl⟩ := hr2
        rw [hlk] at hst
        dsimp only at hst
        k_steps
        rename Fr g' _ _ _ => F3
        rename News _ _ _ _ => N3
        refine JPost.fin ((lw, lst vw nw) :: (_, od) :: news) F3 N3 (by k_extra "SUB") hoff ⟨.head _, some (.str k9 t9), some (.int xe te), od, kvs, ?_, rfl, hod, by rw [hst]; exact hkv⟩
        k_extra "MAP"
  case done =>
    intro m1 n1 h3 tk3 hm hJ F2 N2
    try k_fold
    refine E4_4 (hJ) ?_; (try clear hJ); intro ot oe od kvs hq3 hq4 hod hkv; obtain rfl := hq3; obtain rfl := hq4
    rw [hvw.length, hE.length, List.take_length] at hkv
    k_steps
    rename News h₀ _ _ _ => N3
    exact ret _ _ _ _ _ (by assumption) (by assumption) hod hkv (by k_asm) (news_sub N3 (by k_extra "SUB"))
end

-- part p13_refs.lean
section
open PySem.Calls PyProof.V PySem.Spec
local macro_rules | `(tactic| walk_at "call ref") => `(tactic| k_extra "W13")

abbrev tupO (vs : List Value) (n : Nat) : Obj := { cls := .type "tuple", data := .seq vs.toArray n }
def PairIn (news : List (Addr × Obj)) (v : Value) (p : Int × Str) : Prop := ∃ a n t1 t2, v = .ref a ∧ (a, tupO [.int p.1 t1, .str p.2 t2] n) ∈ news
theorem PairIn.mono {news news' : List (Addr × Obj)} {v : Value} {p : Int × Str} (s : ∀ p ∈ news, p ∈ news') (h : PairIn news v p) : PairIn news' v p := by
  refine E4_2 (h) ?_; (try clear h); intro a n t1 t2 e m
  exact ⟨a, n, t1, t2, e, s _ m⟩
def isRef (rs : List (Str × Str)) (nm : Str) : Bool := match rs.lookup nm with
  | none => false
  | some k => decide (k = st "IDREF") || decide (k = st "IDREFS")
def refs1 (rs : List (Str × Str)) (a : AI) : List (Int × Str) := if isRef rs a.name then a.words.map fun x => (a.node, x) else []
def refsP (rs : List (Str × Str)) (as : List AI) : List (Int × Str) := as.flatMap (refs1 rs)
theorem refsP_step {rs : List (Str × Str)} {as : List AI} {i : Nat} {a : AI} (h : as[i]? = some a) : refsP rs (as.take (i + 1)) = refsP rs (as.take i) ++ refs1 rs a := by
  unfold refsP
  rw [List.take_succ, h, List.flatMap_append]
  simp
theorem refsP_take {rs : List (Str × Str)} {as : List AI} (i : Nat) : (refsP rs (as.take i)).length ≤ (refsP rs as).length := by
  have : refsP rs as = refsP rs (as.take i) ++ refsP rs (as.drop i) := by unfold refsP; rw [← List.flatMap_append, List.take_append_drop]
  rw [this]; simp
variable (w : World) {dp un : Nat} {gd : Option (List Code)} {env : Env} {outer : List Env} {h₀ : Heap} {L : Addr} {m : Str → Option Value} {s : Shared} {Q E : Value → Shared → Prop} {news Z : List (Addr × Obj)}
    {t td rl : Addr} {rn : Nat} {tk : Tok} {rows : List NR} {k : Int} {ti : Tok} {R : NR}
theorem words26 : True := by
  k_with "W40" => (k_here; (try dsimp only); k_dflt (first | (refine' attributes_t _ ?C ?hT ?h0 ?hi ?hd ?hu ?_; k_extra "RD.2"; k_whole; (intro lc' nc' h' tk' l1 F' N'); (try k_lt l1); (try dsimp only)) | (refine' name_t _ ?C ?hT ?h0 ?hi ?hd ?hu ?_; k_extra "RD.2"; k_whole; (intro h' tk' F' N'); (try dsimp only)) | (refine' value_t _ ?C ?hT ?h0 ?hi ?hd ?hu ?_; k_extra "RD.2"; k_whole; (intro h' tk' F' N'); (try dsimp only)) | (refine' space_split_t _ ?C ?hx ?hd ?hu ?_; (case C => k_extra "CXC"); (case hx => k_asm); (case hd => ktr_room); (case hu => ktr_units); k_whole; (intro lp vp np h' tk' l1 hvp F' N'); (try k_lt l1); (try dsimp only)) | (refine' rule1_t _ ?C ?hs ?H ?he ?hd ?hu ?_; (case C => k_extra "CXC"); k_extra "RDTD"; (case hd => ktr_room); (case hu => ktr_units); k_whole; (intro vr h' tk' hvr F' N'); (try dsimp only))))
  trivial
local macro_rules | `(tactic| walk_at "call ref") => `(tactic| k_extra "W40")

abbrev refM (tr x lf : Addr) (k : Int) (ti : Tok) (on orl oa : Option Value) : Str → Option Value := mk [(st "name", on), (st "rule", orl), (st "attribute", oa), (st "found", some (.ref lf)), (st "dtd", some (.ref x)), (st "element", some (.int k ti)), (st "tree", some (.ref tr))]
def refJ (tr x lf : Addr) (k : Int) (ti : Tok) (rs : List (Str × Str)) (as : List AI) (fix : List (Addr × Obj)) : Jt := fun i m n => ∃ on orl oa fv nf Zi,
  m = refM tr x lf k ti on orl oa ∧ n = (lf, lst fv nf) :: Zi ∧ (∀ p ∈ fix, p ∈ Zi) ∧ (∀ p ∈ Zi, p.1 ≠ lf) ∧ All2 (PairIn Zi) fv (refsP rs (as.take i))
def refJ2 (tr x lf : Addr) (k : Int) (ti : Tok) (orl oa : Option Value) (acc : List (Int × Str)) (nd : Int) (ws : List Str) (fix : List (Addr × Obj)) : Jt := fun j m n => ∃ on fv nf Zi,
  m = refM tr x lf k ti on orl oa ∧ n = (lf, lst fv nf) :: Zi ∧ (∀ p ∈ fix, p ∈ Zi) ∧ (∀ p ∈ Zi, p.1 ≠ lf) ∧ All2 (PairIn Zi) fv (acc ++ (ws.take j).map fun x => (nd, x))
theorem itNe {h₀ h : Heap} {L I a : Addr} {all : List (Addr × Obj)} {it : Obj} {vs : List Value} {n : Nat} (N : News h₀ L h all) (hc : it.cls = .type "list_iterator") (hi : (I, it) ∈ all) (ha : (a, tupO vs n) ∈ all) : a ≠ I := fun e => by
  subst e
  have e := Option.some.inj ((N _ hi).1.symm.trans (N _ ha).1)
  dsimp only at e
  rw [e] at hc
  simp at hc
local macro_rules | `(tactic| walk_at "PAD") => `(tactic| fail)
theorem refs_t {x : Addr} {tab : Tab} {rs : List (Str × Str)} {as : List AI} (C : Cx w outer h₀ L env m s.heap news) (hT : TreeIn w.params news t td rl rn tk rows) (h0 : 0 ≤ k) (hi : rows[k.toNat]? = some R)
    (hs : ∀ p ∈ Z, p ∈ news) (H : DtdIn w Z x tab) (he : tab.lookup R.name = some rs) (ha : All2 (AttrIs rows) R.av as) (hz : (refsP rs as).length ≤ 1000)
    (hd : dp + 5 < recursionLimit) (hu : un + 120 < cLine)
    (ret : ∀ l vs n Z' h' tk', (∀ p ∈ news, p ∈ Z') → (∀ p ∈ Z', p.1 ≠ l) → All2 (PairIn Z') vs (refsP rs as) → Fr h₀ L h' m → News h₀ L h' ((l, lst vs n) :: Z') → Q (.ref l) { s with heap := h', toks := tk' }) :
    wpAny (model prg w) (aT dp un gd env outer) (call (.ref 63) [.ref t, .int k ti, .ref x]) Q E s := by
  refine C.elim ?_; intro A₀ base mean mg mb B T F N X hf hk
  have H0 := H
  refine E11_6 (H0) ?_; (try clear H0); intro dd k1 k2 k3 k4 rt ee a n oA kvs h1 h2 h3 h4 h5 h6
  have h1 := hs _ h1
  have h2 := hs _ h2
  k_extra "FILL"
  have m1 := hT.h1
  have m2 := hT.h2
  refine E0_7 (hT.row hi) ?_; intro r1 r2 r3 r4 hlen z1 z2
  k_extra "ENTER"
  replace F' := Fr.of_eq (mk_binds [(st "dtd", .ref x), (st "element", .int k ti), (st "tree", .ref t)]) F'
  k_steps
  refine goOn ?_
  rename News _ _ _ _ => N1
  rename Fr g' _ _ _ => F1
  replace F1 := Fr.of_eq (m' := refM t x _ k ti none none none) (mk_of2 (by k_extra "OFFM") rfl) F1
  rename_i lf _ _ _ _ _ _
  refine' for_list_J (news := (lf, lst [] 0) :: (lc', lst R.av nc') :: news) (refJ t x lf k ti rs as ((lc', lst R.av nc') :: news)) rfl F1 (news_sub N1 ?sb) (.tail _ (.head _)) ⟨none, none, none, [], 0, _, rfl, rfl, fun _ h => h, ?ol, trivial⟩ (goOn ?turn) (goOn ?done)
  case sb => k_extra "SUB"
  case ol => exact Offs.mem (by walk_at "OFFS")
  case turn =>
    intro I i v m1 n1 it h3 tk3 hv hI hoff hm hJ hc F2 N2
    try k_fold
    refine E6_5 (hJ) ?_; (try clear hJ); intro on orl oa fv nf Zi hq5 hq6 hfix hZl hfv; obtain rfl := hq5; obtain rfl := hq6
    refine E1_2 (ha.get hv) ?_; intro ai hai hr7; refine E2_6 (hr7) ?_; (try clear hr7); intro ta RA hq8 a0 ra hna hwa hla; obtain rfl := hq8
    have hIl := fun e => hoff (lf, lst fv nf) (.head _) (Eq.symm e)
    replace hIl := neN hIl
    have hsub : ∀ p ∈ news, p ∈ Zi := fun p hp => hfix p (.tail _ hp)
    have hs2 : ∀ p ∈ Z, p ∈ Zi := fun p hp => hsub p (hs p hp)
    have m1 := hsub _ m1
    have m2 := hsub _ m2
    have h1 := hsub _ h1
    have h2 := hsub _ h2
    k_steps
    cases hL : rs.lookup RA.name with
    | none =>
      rw [hL] at hvr
      replace hvr : vr = .none := hvr
      subst hvr
      k_steps
      rename Fr g' _ _ _ => F3
      rename News _ _ _ _ => N3
      refine JPost.fin ((lf, lst fv nf) :: Zi) F3 N3 (by k_extra "SUB") hoff ⟨.tail _ (hfix _ (.head _)), on, some .none, some (.int ai.node ta), fv, nf, Zi, ?_, rfl, hfix, hZl, ?_⟩
      · k_extra "MAP"
      · rw [refsP_step hai, show refs1 rs ai = [] from if_neg (by unfold isRef; rw [← hna, hL]; decide), List.append_nil]; exact hfv
    | some kd =>
      rw [hL] at hvr
      refine E10_3 (hvr) ?_; (try clear hvr); intro rx rd k1 k2 k3 k4 tt v2 v3 v4 hq9 q1 q2; obtain rfl := hq9
      have q1 := hs2 _ q1
      have q2 := hs2 _ q2
      have hR : isRef rs ai.name = (decide (kd = st "IDREF") || decide (kd = st "IDREFS")) := by unfold isRef; rw [← hna, hL]
      k_steps
      · rename (_ = true) => hb
        refine goOn ?_
        have hb2 : isRef rs ai.name = true := by
          rw [hR]
          simp only [List.any_cons, List.any_nil, Bool.or_false, Bool.or_eq_true, beq_iff_eq] at hb
          simp only [Bool.or_eq_true, decide_eq_true_eq]
          exact hb.imp Eq.symm Eq.symm
        have hr1 : refs1 rs ai = ai.words.map fun x => (ai.node, x) := if_pos hb2
        rw [hwa] at hvp
        rename News _ _ _ _ => N3
        rename Fr g' _ _ _ => F3
        replace F3 := Fr.of_eq (m' := refM t x _ k ti on (some (.ref rx)) (some (.int ai.node ta))) (mk_of2 (by k_extra "OFFM") rfl) F3
        have hzz := refsP_take (rs := rs) (as := as) (i + 1)
        rw [refsP_step hai, hr1, List.length_append, List.length_map] at hzz
        refine' for_list_J (news := (lf, lst fv nf) :: (lp, lst vp np) :: (I, it) :: Zi) (refJ2 t x lf k ti (some (.ref rx)) (some (.int ai.node ta)) (refsP rs (as.take i)) ai.node ai.words ((lp, lst vp np) :: (I, it) :: Zi)) rfl F3 (news_sub N3 ?sb2) (.tail _ (.head _)) ⟨on, fv, nf, _, rfl, rfl, fun _ h => h, ?ol2, ?al2⟩ (goOn ?turn2) (goOn ?done2)
        case sb2 => k_extra "SUB"
        case ol2 => exact Offs.mem (by walk_at "OFFS")
        case al2 =>
          rw [List.take_zero, List.map_nil, List.append_nil]
          exact hfv.mono fun _ _ h => h.mono fun p hp => .tail _ (.tail _ hp)
        case turn2 =>
          intro I2 j v2 m2 n2 it2 h4 tk4 hv2 hI2 hoff2 hm2 hJ2 hc2 F4 N4
          try k_fold
          refine E4_5 (hJ2) ?_; (try clear hJ2); intro on2 fv2 nf2 Z2 hq0 hq1 hfix2 hZl2 hfv2; obtain rfl := hq0; obtain rfl := hq1
          have hIl2 := fun e => hoff2 (lf, lst fv2 nf2) (.head _) (Eq.symm e)
          replace hIl2 := neN hIl2
          refine E2_2 (strs_get hvp hv2) ?_; intro xw tw hq2 hxw; obtain rfl := hq2
          have hl2 := hfv2.length
          have hl3 : (ai.words.take j).length ≤ ai.words.length := by rw [List.length_take]; omega
          rw [List.length_append, List.length_map] at hl2
          have hl4 : fv2.length ≤ 2000 := by omega
          have hz2I : ∀ p ∈ Z2, p.1 ≠ I2 := fun p hp => hoff2 p (.tail _ hp)
          k_steps
          rename News _ _ _ _ => N5
          rename Fr g' _ _ _ => F5
          refine' JPost.fin ((lf, lst (fv2 ++ [_]) _) :: (_, tupO _ 0) :: Z2) F5 N5 ?s5 ?o5 ⟨.tail _ (.tail _ (hfix2 _ (.head _))), some (.str xw tw), _, _, (_, tupO _ 0) :: Z2, ?mp5, rfl, fun p hp => .tail _ (hfix2 p hp), ?ol5, ?al5⟩
          case s5 => k_extra "SUB"
          case o5 => exact Offs.mem (by walk_at "OFFS")
          case mp5 => k_extra "MAP"
          case ol5 => exact Offs.mem (by walk_at "OFFS")
          case al5 =>
            rw [List.take_succ, hxw, List.map_append, ← List.append_assoc]
            exact All2.append (hfv2.mono fun _ _ h => h.mono fun p hp => .tail _ hp) ⟨⟨_, _, _, _, rfl, .head _⟩, trivial⟩
        case done2 =>
          intro m2 n2 h4 tk4 hm2 hJ2 F4 N4
          try k_fold
          refine E4_5 (hJ2) ?_; (try clear hJ2); intro on2 fv2 nf2 Z2 hq3 hq4 hfix2 hZl2 hfv2; obtain rfl := hq3; obtain rfl := hq4
          rw [hvp.len_eq, List.take_length, ← hr1, ← refsP_step hai] at hfv2
          have hq : ∀ p ∈ (I, it) :: (lf, lst fv2 nf2) :: strip I Z2, p ∈ (lf, lst fv2 nf2) :: Z2 := fun p hp => by
            rcases List.mem_cons.mp hp with rfl | hp
            · exact .tail _ (hfix2 _ (.tail _ (.head _)))
            · rcases List.mem_cons.mp hp with rfl | hp
              · exact .head _
              · exact .tail _ (strip_sub p hp)
          k_steps
          refine' JPost.fin ((lf, lst fv2 nf2) :: strip I Z2) F4 N4 hq ?o6 ⟨.tail _ ?mm6, on2, some (.ref rx), some (.int ai.node ta), fv2, nf2, strip I Z2, rfl, rfl, fun p hp => ?ff6, fun p hp => hZl2 p (strip_sub p hp), ?al6⟩
          case o6 =>
            intro p hp
            rcases List.mem_cons.mp hp with rfl | hp
            · exact Ne.symm hIl
            · exact strip_off p hp
          case mm6 => exact List.mem_filter.mpr ⟨hfix2 _ (.tail _ (.tail _ (hfix _ (.head _)))), decide_eq_true (hoff _ (.tail _ (hfix _ (.head _))))⟩
          case ff6 => exact List.mem_filter.mpr ⟨hfix2 _ (.tail _ (.tail _ (hfix _ hp))), decide_eq_true (hoff _ (.tail _ (hfix _ hp)))⟩
          case al6 => exact hfv2.mono fun _ _ ⟨a, n, t1, t2, e, m⟩ => ⟨a, n, t1, t2, e, List.mem_filter.mpr ⟨m, decide_eq_true (itNe N4 hc (.tail _ (hfix2 _ (.tail _ (.head _)))) (.tail _ m))⟩⟩
      · rename (_ = false) => hb
        have hb2 : isRef rs ai.name = false := by
          rw [hR]
          simp only [List.any_cons, List.any_nil, Bool.or_false, Bool.or_eq_false_iff, beq_eq_false_iff_ne] at hb
          simp only [Bool.or_eq_false_iff, decide_eq_false_iff_not]
          exact ⟨Ne.symm hb.1, Ne.symm hb.2⟩
        rename Fr g' _ _ _ => F3
        rename News _ _ _ _ => N3
        refine JPost.fin ((lf, lst fv nf) :: Zi) F3 N3 (by k_extra "SUB") hoff ⟨.tail _ (hfix _ (.head _)), on, some (.ref rx), some (.int ai.node ta), fv, nf, Zi, ?_, rfl, hfix, hZl, ?_⟩
        · k_extra "MAP"
        · rw [refsP_step hai, show refs1 rs ai = [] from if_neg (by rw [hb2]; decide), List.append_nil]; exact hfv
  case done =>
    intro m1 n1 h3 tk3 hm hJ F2 N2
    try k_fold
    refine E6_5 (hJ) ?_; (try clear hJ); intro on orl oa fv nf Zi hq5 hq6 hfix hZl hfv; obtain rfl := hq5; obtain rfl := hq6
    rw [ha.length, List.take_length] at hfv
    k_steps
    rename News h₀ _ _ _ => N3
    exact ret _ _ _ Zi _ _ (fun p hp => hfix p (.tail _ hp)) hZl hfv (by k_asm) (news_sub N3 (by k_extra "SUB"))
end

-- part p14_turns.lean
section
variable {prog : Program} {w : World} {A : Around} {E : Value → Shared → Prop} {s : Shared} {env : Env} {h₀ : Heap} {target : PySem.Expr} {body : List Stmt} {Q : Flow → Shared → Prop}
theorem itemsRest_J {I : Addr} {lp : Addr × Obj} {vs : List Value} (J : Jt)
    (turn : ∀ i v m₁ news₁ it h tk, vs[i]? = some v → (∀ p ∈ news₁, p.1 ≠ I) → lp ∈ news₁ → J i m₁ news₁ → it.cls = .type "list_iterator" → Fr h₀ env.locals h m₁ → News h₀ env.locals h ((I, it) :: news₁) →
      wpAny (model prog w) A (assign target env v) (fun _ s₂ => wpAny (model prog w) A (execs body env) (JPost h₀ env.locals { s with heap := h, toks := tk } I it (fun m' n' => lp ∈ n' ∧ J (i + 1) m' n') Q) E s₂) E { s with heap := h, toks := tk })
    (done : ∀ m₁ news₁ h tk, lp ∈ news₁ → J vs.length m₁ news₁ → Fr h₀ env.locals h m₁ → News h₀ env.locals h news₁ → Q .next { s with heap := h, toks := tk }) :
    ∀ (k i : Nat) (m : Str → Option Value) (news : List (Addr × Obj)), i + k = vs.length → (∀ p ∈ news, p.1 ≠ I) → lp ∈ news → J i m news → ItemsRest prog w A E h₀ env target body Q s [(I, "list_iterator")] [lp] ((vs.drop i).map .val) m news
  | 0, i, m, news, e, off, hl, hj => by
    have : i = vs.length := by omega
    subst this
    rw [List.drop_length]
    exact fun h tk F N => done m news h tk hl hj F N
  | k + 1, i, m, news, e, off, hl, hj => by
    have hlt : i < vs.length := by omega
    rw [List.drop_eq_getElem_cons hlt, List.map_cons]
    refine ItemsRest.val fun h tk F => AllObj.cons (fun it hc => AllObj.nil fun N => ?_)
    refine wpAny_mono (turn i _ m news it h tk (List.getElem?_eq_getElem hlt) off hl hj hc F N) (fun _ s₂ h₂ => wpAny_mono h₂ (fun f s₃ p => ?_) fun _ _ e => e) fun _ _ e => e
    have fin : ∀ s₃, UnrEnd h₀ env.locals { s with heap := h, toks := tk } I it (fun m' n' => lp ∈ n' ∧ J (i + 1) m' n') s₃ → UnrEndW h₀ env.locals { s with heap := h, toks := tk } [(I, it)] (fun m' n' => SubL [lp] n' ∧ ItemsRest prog w A E h₀ env target body Q s [(I, "list_iterator")] [lp] ((vs.drop (i + 1)).map .val) m' n') s₃ := by
      rintro s₃ ⟨h', tk', m', n', e', F', N', o, r⟩
      exact ⟨h', tk', m', n', e', F', N', fun p hp q hq => by rw [List.mem_singleton.mp hq]; exact o p hp, ⟨r.1, trivial⟩, itemsRest_J J turn done k (i + 1) m' n' (by omega) o r.1 r.2⟩
    cases f with
    | ret v => exact p
    | brk => exact p
    | next => exact fin _ p
    | cont => exact fin _ p
theorem for_turns_J {l : Addr} {vs : List Value} {n : Nat} {m₀ : Str → Option Value} {news : List (Addr × Obj)} (J : Jt)
    (hh : A.handled = none) (F : Fr h₀ env.locals s.heap m₀) (N : News h₀ env.locals s.heap news) (hm : (l, lst vs n) ∈ news) (h0 : J 0 m₀ news)
    (turn : Later (∀ I i v m₁ news₁ it h tk, vs[i]? = some v → (∀ p ∈ news, p.1 < I) → (∀ p ∈ news₁, p.1 ≠ I) → (l, lst vs n) ∈ news₁ → J i m₁ news₁ → it.cls = .type "list_iterator" → Fr h₀ env.locals h m₁ → News h₀ env.locals h ((I, it) :: news₁) →
      wpAny (model prog w) A (assign target env v) (fun _ s₂ => wpAny (model prog w) A (execs body env) (JPost h₀ env.locals { s with heap := h, toks := tk } I it (fun m' n' => (l, lst vs n) ∈ n' ∧ J (i + 1) m' n') Q) E s₂) E { s with heap := h, toks := tk }))
    (done : Later (∀ m₁ news₁ h tk, (l, lst vs n) ∈ news₁ → J vs.length m₁ news₁ → Fr h₀ env.locals h m₁ → News h₀ env.locals h news₁ → Q .next { s with heap := h, toks := tk })) :
    wpAny (model prog w) A (pyIter (.ref l)) (fun it s₂ => TurnsAt prog w A h₀ env target body Q E it s₂) E s :=
  iter_listTurns hh F N hm rfl rfl fun I hI => by
    have := itemsRest_J (prog := prog) (w := w) (A := A) (E := E) (s := s) (env := env) (h₀ := h₀) (target := target) (body := body) (Q := Q) (I := I) (lp := (l, lst vs n)) (vs := vs) J (fun i v m₁ news₁ it h tk e o a b c d e' => turn I i v m₁ news₁ it h tk e hI o a b c d e') done vs.length 0 m₀ news (by omega) (fun p hp => Nat.ne_of_lt (hI p hp)) hm h0
    simpa using this
end

-- part p15_broken.lean
section
open PySem.Calls PyProof.V PySem.Spec
local macro_rules | `(tactic| walk_at "call ref") => `(tactic| k_extra "W13")

def missing (es : List EI) (p : Int × Str) : Bool := ((tblP es).lookup p.2).isNone
def brokenOf (es : List EI) (l : List EI) : List (Int × Str) := l.flatMap fun e => (refsP e.rs e.as).filter (missing es)
abbrev brokenP (es : List EI) : List (Int × Str) := brokenOf es es
theorem brokenOf_step {es l : List EI} {i : Nat} {e : EI} (h : l[i]? = some e) : brokenOf es (l.take (i + 1)) = brokenOf es (l.take i) ++ (refsP e.rs e.as).filter (missing es) := by
  unfold brokenOf
  rw [List.take_succ, h, List.flatMap_append]
  simp
def refsAll (es : List EI) : List (Int × Str) := es.flatMap fun e => refsP e.rs e.as
theorem refsAll_take {es : List EI} (i : Nat) : (refsAll (es.take i)).length ≤ (refsAll es).length := by
  have : refsAll es = refsAll (es.take i) ++ refsAll (es.drop i) := by unfold refsAll; rw [← List.flatMap_append, List.take_append_drop]
  rw [this]; simp
theorem refsAll_step {l : List EI} {i : Nat} {e : EI} (h : l[i]? = some e) : refsAll (l.take (i + 1)) = refsAll (l.take i) ++ refsP e.rs e.as := by
  unfold refsAll
  rw [List.take_succ, h, List.flatMap_append]
  simp
theorem brokenOf_le (es : List EI) : ∀ l : List EI, (brokenOf es l).length ≤ (refsAll l).length
  | [] => by simp [brokenOf, refsAll]
  | e :: l => by
    have h1 := brokenOf_le es l
    have h2 := List.length_filter_le (missing es) (refsP e.rs e.as)
    unfold brokenOf refsAll at *
    simp only [List.flatMap_cons, List.length_append]
    omega
abbrev broM (tr x lf kd : Addr) (k : Int) (ti : Tok) (on oa oe : Option Value) : Str → Option Value := mk [(st "name", on), (st "attribute", oa), (st "element", oe), (st "found", some (.ref lf)), (st "known", some (.ref kd)), (st "dtd", some (.ref x)), (st "root", some (.int k ti)), (st "tree", some (.ref tr))]
def broJ (tr x lf kd : Addr) (k : Int) (ti : Tok) (es : List EI) (fix : List (Addr × Obj)) : Jt := fun i m n => ∃ on oa oe fv nf Zi,
  m = broM tr x lf kd k ti on oa oe ∧ n = (lf, lst fv nf) :: Zi ∧ (∀ p ∈ fix, p ∈ Zi) ∧ (∀ p ∈ Zi, p.1 ≠ lf) ∧ All2 (PairIn Zi) fv (brokenOf es (es.take i))
def broJ2 (tr x lf kd : Addr) (k : Int) (ti : Tok) (oe : Option Value) (acc : List (Int × Str)) (ps : List (Int × Str)) (es : List EI) (fix : List (Addr × Obj)) : Jt := fun j m n => ∃ on oa fv nf Zi,
  m = broM tr x lf kd k ti on oa oe ∧ n = (lf, lst fv nf) :: Zi ∧ (∀ p ∈ fix, p ∈ Zi) ∧ (∀ p ∈ Zi, p.1 ≠ lf) ∧ All2 (PairIn Zi) fv (acc ++ (ps.take j).filter (missing es))
variable (w : World) {dp un : Nat} {gd : Option (List Code)} {env : Env} {outer : List Env} {h₀ : Heap} {L : Addr} {m : Str → Option Value} {s : Shared} {Q E : Value → Shared → Prop} {news Z : List (Addr × Obj)}
    {t td rl : Addr} {rn : Nat} {tk : Tok} {rows : List NR} {k : Int} {ti : Tok} {R : NR}
theorem words28 : True := by
  k_with "W41" => (k_here; (try dsimp only); k_dflt (first | (refine' idtable_t _ ?C ?hT ?h0 ?hi ?ks ?W ?n ?E ?hs ?H ?hd ?hu ?_; (case C => k_extra "CXC"); (case hT => k_extra "TREE"); (case h0 => k_asm); (case hi => k_asm); (case hs => walk_at "SUBI"); (case H => assumption); (case hd => ktr_room); (case hu => ktr_units); (case ks => assumption); (case W => assumption); (case n => assumption); (case E => assumption); k_whole; (intro kd od kvd h' tk' l1 klo hkd hkv F' N'); (try k_lt l1); (try dsimp only)) | (refine' walk_t _ ?C ?hT ?h0 ?hi ?ks ?W ?n ?hd ?hu ?_; k_extra "RD.2"; (case ks => assumption); (case W => assumption); (case n => assumption); k_whole; (intro lw vw nw h' tk' l1 hvw F' N'); (try k_lt l1); (try dsimp only)) | (refine' refs_t _ ?C ?hT ?h0 ?hi ?hs ?H ?he ?ha ?hz ?hd ?hu ?_; k_extra "RD.2"; k_extra "RDTD"; (case ha => assumption); (case hz => omega); k_whole; (intro lr vr nr Zr h' tk' hsr hor hvr F' N'); (try dsimp only))))
  trivial
local macro_rules | `(tactic| walk_at "call ref") => `(tactic| k_extra "W41")
local macro_rules | `(tactic| walk_at "exec For Tuple Call cons nil") => `(tactic| (k_here; (rename Fr _ _ _ _ => lF'); (with_unfolding_all refine' For_turns lF' ?_; k_whole)))
local macro_rules | `(tactic| walk_at "pyIter ref") => `(tactic| ((with_reducible show wpAny _ _ (pyIter (Value.ref _)) (fun it s₂ => TurnsAt _ _ _ _ _ _ _ _ _ it s₂) _ _); refine stopAt ?_))

theorem strip_of {l : Addr} {all : List (Addr × Obj)} {p : Addr × Obj} (hp : p ∈ all) (h : p.1 ≠ l) : p ∈ strip l all := List.mem_filter.mpr ⟨hp, decide_eq_true h⟩
theorem PairIn.strip {h₀ h : Heap} {L l : Addr} {all : List (Addr × Obj)} {vs : List Value} {n : Nat} {v : Value} {p : Int × Str} (N : News h₀ L h all) (hl : (l, lst vs n) ∈ all) (H : PairIn all v p) : PairIn (Mine.strip l all) v p := by
  refine E4_2 (H) ?_; (try clear H); intro a k t1 t2 e m
  exact ⟨a, k, t1, t2, e, strip_mem N hl m (by simp)⟩
theorem PairIn.stripI {h₀ h : Heap} {L I : Addr} {all : List (Addr × Obj)} {it : Obj} {v : Value} {p : Int × Str} (N : News h₀ L h all) (hc : it.cls = .type "list_iterator") (hi : (I, it) ∈ all) (H : PairIn all v p) : PairIn (Mine.strip I all) v p := by
  refine E4_2 (H) ?_; (try clear H); intro a k t1 t2 e m
  exact ⟨a, k, t1, t2, e, strip_of m (itNe N hc hi m)⟩
theorem broken_t {x : Addr} {tab : Tab} {ks out : List Int} {n₀ : Nat} {es : List EI} (C : Cx w outer h₀ L env m s.heap news) (hT : TreeIn w.params news t td rl rn tk rows) (h0 : 0 ≤ k) (hi : rows[k.toNat]? = some R)
    (hks : IntsAre R.kv ks) (hW : WalkR rows ks out n₀) (hn : n₀ ≤ 1000) (hE : All2 (ElemIs rows tab) out es) (hs : ∀ p ∈ Z, p ∈ news) (H : DtdIn w Z x tab) (hz : (refsAll es).length ≤ 1000)
    (hd : dp + 7 < recursionLimit) (hu : un + 150 < cLine)
    (ret : ∀ l vs n Z' h' tk', (∀ p ∈ news, p ∈ Z') → (∀ p ∈ Z', p.1 ≠ l) → All2 (PairIn Z') vs (brokenP es) → Fr h₀ L h' m → News h₀ L h' ((l, lst vs n) :: Z') → Q (.ref l) { s with heap := h', toks := tk' }) :
    wpAny (model prg w) (aT dp un gd env outer) (call (.ref 70) [.ref t, .int k ti, .ref x]) Q E s := by
  refine C.elim ?_; intro A₀ base mean mg mb B T F N X hf hk
  k_extra "FILL"
  k_extra "ENTER"
  replace F' := Fr.of_eq (mk_binds [(st "dtd", .ref x), (st "root", .int k ti), (st "tree", .ref t)]) F'
  k_steps
  refine goOn ?_
  rename News _ _ _ _ => N1
  rename Fr g' _ _ _ => F1
  rename_i lf _ _ _ _ _ _ _ _ _ _ _ _ _ _ _ _
  replace F1 := Fr.of_eq (m' := broM t x lf kd k ti none none none) (mk_of2 (by k_extra "OFFM") rfl) F1
  have heo : es.length ≤ 1000 := by rw [← hE.length]; have := hW.len; omega
  refine' for_list_J (news := (lf, lst [] 0) :: (lw, lst vw nw) :: (kd, od) :: news) (broJ t x lf kd k ti es ((lw, lst vw nw) :: (kd, od) :: news)) rfl F1 (news_sub N1 ?sb) (.tail _ (.head _)) ⟨none, none, none, [], 0, _, rfl, rfl, fun _ h => h, ?ol, trivial⟩ (goOn ?turn) (goOn ?done)
  case sb => k_extra "SUB"
  case ol => exact Offs.mem (by walk_at "OFFS")
  case turn =>
    intro I i v m1 n1 it h3 tk3 hv hI hoff hm hJ hc F2 N2
    try k_fold
    refine E6_5 (hJ) ?_; (try clear hJ); intro on oa oe fv nf Zi hq7 hq8 hfix hZl hfv; obtain rfl := hq7; obtain rfl := hq8
    refine E2_2 (ints_get hvw hv) ?_; intro xe te hq9 hxe; obtain rfl := hq9
    refine E1_2 (hE.get hxe) ?_; intro e hei hr0; refine E1_6 (hr0) ?_; (try clear hr0); intro RE e0 een er etab eok eav
    have hz9 := refsAll_take (es := es) (i + 1)
    rw [refsAll_step hei, List.length_append] at hz9
    have hsub : ∀ p ∈ news, p ∈ Zi := fun p hp => hfix p (.tail _ (.tail _ hp))
    have hs2 : ∀ p ∈ Z, p ∈ Zi := fun p hp => hsub p (hs p hp)
    k_steps
    refine goOn ?_
    rename News _ _ _ _ => N3
    rename Fr g' _ _ _ => F3
    have hlr := hor _ (hsr _ (.tail _ (.head _)))
    have hvr' := hvr.mono fun _ _ h => (h.mono fun p hp => .tail _ hp).strip N3 (.tail _ (hsr _ (.tail _ (.head _))))
    generalize hZs : strip lf ((lr, lst vr nr) :: Zr) = Zs at hvr'
    have hZs1 : ∀ p ∈ Zi, p ∈ Zs := fun p hp => hZs ▸ strip_of (.tail _ (hsr _ (.tail _ (.tail _ hp)))) (hZl p hp)
    have hIs : (I, it) ∈ Zs := hZs ▸ strip_of (.tail _ (hsr _ (.head _))) (fun e => hoff (lf, lst fv nf) (.head _) e.symm)
    have hrs : (lr, lst vr nr) ∈ Zs := hZs ▸ strip_of (.head _) (fun e => hlr e.symm)
    replace F3 := Fr.of_eq (m' := broM t x lf kd k ti on oa (some (.int xe te))) (mk_of2 (by k_extra "OFFM") rfl) F3
    have hbl := brokenOf_le es (es.take i)
    refine' for_turns_J (news := (lf, lst fv nf) :: Zs) (broJ2 t x lf kd k ti (some (.int xe te)) (brokenOf es (es.take i)) (refsP e.rs e.as) es Zs) rfl F3 (news_sub N3 ?sb2) (.tail _ hrs) ⟨on, oa, fv, nf, Zs, rfl, rfl, fun _ h => h, ?ol2, ?al2⟩ (goOn ?turn2) (goOn ?done2)
    case sb2 =>
      intro p hp
      rcases List.mem_cons.mp hp with rfl | hp
      · exact .tail _ (hsr _ (.tail _ (.head _)))
      · exact strip_sub (l := lf) p (hZs ▸ hp)
    case ol2 => intro p hp; exact strip_off (l := lf) p (hZs ▸ hp)
    case al2 =>
      rw [List.take_zero, List.filter_nil, List.append_nil]
      exact hfv.mono fun _ _ h => h.mono hZs1
    case turn2 =>
      intro I2 j v2 m2 n2 it2 h4 tk4 hv2 hI2 hoff2 hm2 hJ2 hc2 F4 N4
      try k_fold
      refine E5_5 (hJ2) ?_; (try clear hJ2); intro on2 oa2 fv2 nf2 Z2 hq1 hq2 hfix2 hZl2 hfv2; obtain rfl := hq1; obtain rfl := hq2
      refine E1_2 (hvr'.get hv2) ?_; intro pp hpp hr3; refine E4_2 (hr3) ?_; (try clear hr3); intro av nn tt1 tt2 hq4 hmt; obtain rfl := hq4
      have hmt := hfix2 _ hmt
      have hkdm := hfix2 _ (hZs1 _ (hfix _ (.tail _ (.head _))))
      have hIl2 := fun e => hoff2 (lf, lst fv2 nf2) (.head _) (Eq.symm e)
      replace hIl2 := neN hIl2
      have hz2I : ∀ p ∈ Z2, p.1 ≠ I2 := fun p hp => hoff2 p (.tail _ hp)
      have hl2 := hfv2.length
      have hl3 := List.length_filter_le (missing es) ((refsP e.rs e.as).take j)
      rw [List.length_append] at hl2
      rw [List.length_take] at hl3
      have hl4 : fv2.length ≤ 2000 := by omega
      have hst : ((refsP e.rs e.as).take (j + 1)).filter (missing es) = ((refsP e.rs e.as).take j).filter (missing es) ++ [pp].filter (missing es) := by rw [List.take_succ, hpp, List.filter_append]; rfl
      cases hlk : (tblP es).lookup pp.2 with
      | none =>
        have hv9 := kv_none hkv hlk
        rw [show [pp].filter (missing es) = [pp] from by simp [missing, hlk]] at hst
        k_steps
        rename News _ _ _ _ => N5
        rename Fr g' _ _ _ => F5
        refine' JPost.fin ((lf, lst (fv2 ++ [_]) _) :: (_, tupO _ 0) :: Z2) F5 N5 ?s5 ?o5 ⟨.tail _ (.tail _ (hfix2 _ hrs)), some (.str pp.2 tt2), some (.int pp.1 tt1), _, _, (_, tupO _ 0) :: Z2, ?mp5, rfl, fun p hp => .tail _ (hfix2 p hp), ?ol5, ?al5⟩
        case s5 => k_extra "SUB"
        case o5 => exact Offs.mem (by walk_at "OFFS")
        case mp5 => k_extra "MAP"
        case ol5 => exact Offs.mem (by walk_at "OFFS")
        case al5 =>
          rw [hst, ← List.append_assoc]
          exact All2.append (hfv2.mono fun _ _ h => h.mono fun p hp => .tail _ hp) ⟨⟨_, _, _, _, rfl, .head _⟩, trivial⟩
      | some n9 =>
        refine E1_2 (kv_some hkv hlk) ?_; intro v9 hv9 hr5; obtain ⟨t8, rfl⟩ := hr5
        rw [show [pp].filter (missing es) = [] from by simp [missing, hlk], List.append_nil] at hst
        k_steps
        rename News _ _ _ _ => N5
        rename Fr g' _ _ _ => F5
        refine' JPost.fin ((lf, lst fv2 nf2) :: Z2) F5 N5 ?s6 hoff2 ⟨.tail _ (hfix2 _ hrs), some (.str pp.2 tt2), some (.int pp.1 tt1), _, _, Z2, ?mp6, rfl, hfix2, hZl2, ?al6⟩
        case s6 => k_extra "SUB"
        case mp6 => k_extra "MAP"
        case al6 => rw [hst]; exact hfv2
    case done2 =>
      intro m2 n2 h4 tk4 hm2 hJ2 F4 N4
      try k_fold
      refine E5_5 (hJ2) ?_; (try clear hJ2); intro on2 oa2 fv2 nf2 Z2 hq6 hq7 hfix2 hZl2 hfv2; obtain rfl := hq6; obtain rfl := hq7
      rw [hvr'.length, List.take_length, ← brokenOf_step hei] at hfv2
      have hIz := hfix2 _ hIs
      have hIl := hZl2 _ hIz
      k_steps
      refine' JPost.fin ((lf, lst fv2 nf2) :: strip I Z2) F4 N4 ?s7 ?o7 ⟨.tail _ (strip_of (hfix2 _ (hZs1 _ (hfix _ (.head _)))) (hoff _ (.tail _ (hfix _ (.head _))))), on2, oa2, some (.int xe te), fv2, nf2, strip I Z2, rfl, rfl, fun p hp => strip_of (hfix2 _ (hZs1 _ (hfix _ hp))) (hoff _ (.tail _ (hfix _ hp))), fun p hp => hZl2 p (strip_sub p hp), ?al7⟩
      case s7 =>
        intro p hp
        rcases List.mem_cons.mp hp with rfl | hp
        · exact .tail _ hIz
        · rcases List.mem_cons.mp hp with rfl | hp
          · exact .head _
          · exact .tail _ (strip_sub p hp)
      case o7 =>
        intro p hp
        rcases List.mem_cons.mp hp with rfl | hp
        · exact fun e => hIl e.symm
        · exact strip_off p hp
      case al7 => exact hfv2.mono fun _ _ h => h.stripI (news_sub N4 fun p hp => .tail _ hp) hc hIz
  case done =>
    intro m1 n1 h3 tk3 hm hJ F2 N2
    try k_fold
    refine E6_5 (hJ) ?_; (try clear hJ); intro on oa oe fv nf Zi hq8 hq9 hfix hZl hfv; obtain rfl := hq8; obtain rfl := hq9
    rw [hvw.length, hE.length, List.take_length] at hfv
    k_steps
    rename News h₀ _ _ _ => N3
    exact ret _ _ _ Zi _ _ (fun p hp => hfix p (.tail _ (.tail _ hp))) hZl hfv (by k_asm) (news_sub N3 (by k_extra "SUB"))
end

-- part p16_comp2.lean
section
open LCg LCt LCp PySem.Calls PyProof.V PySem.Spec
variable {w : World} {A : Around} {E : Value → Shared → Prop} {s : Shared} {h₀ : Heap} {L : Addr} {m : Str → Option Value} {env : Env}
def PairRest (w : World) (A : Around) (h₀ : Heap) (L : Addr) (m : Str → Option Value) (env : Env) (ct elt : PySem.Expr) (x x₂ : Str) (scope : Scope) (cl : List (Str × Addr)) (s : Shared) (ax : Addr) (oa : Obj) (vs : List Value) (J : Jc) : Prop :=
  ∀ i ys news v, vs[i]? = some v → J i ys news → ∃ t v₁ v₂ nt, v = Value.ref t ∧ (t, ({ cls := .type "tuple", data := .seq #[v₁, v₂] nt } : Obj)) ∈ news ∧
    ∀ I oI C oC D m₂ h tk (E' : Value → Shared → Prop), NsObj oC m₂ → m₂ x = some v₁ → m₂ x₂ = some v₂ → Fr h₀ L h m → News h₀ L h ((I, oI) :: (C, oC) :: (D, LCg.lst ys) :: news) → (∀ p ∈ news, p.1 ≠ I ∧ p.1 ≠ C ∧ p.1 ≠ D) → ((@Ne Nat I C) ∧ (@Ne Nat I D) ∧ (@Ne Nat C D)) →
      wpAny (model prg w) A (isTrue ct (compEnvC scope cl C env) (eval ct (compEnvC scope cl C env))) (fun ok s' => if ok = true then
        wpAny (model prg w) A (eval elt (compEnvC scope cl C env)) (CEnd h₀ L m { s with heap := h, toks := tk } I oI C oC D (LCg.lst ys) (fun n => (ax, oa) ∈ n) (fun y news' => J (i + 1) (ys ++ [y]) news')) E' s'
        else CEnd h₀ L m { s with heap := h, toks := tk } I oI C oC D (LCg.lst ys) (fun n => (ax, oa) ∈ n) (fun _ news' => J (i + 1) ys news') Value.none s') E' { s with heap := h, toks := tk }
theorem pair_block {ct elt iter : PySem.Expr} {x x₂ : Str} {px px₂ tp : Pos} {ntk : Nat} {scope : Scope} {cl : List (Str × Addr)} {pos : Pos} {s₂ : Shared} {I ax : Addr} {oa : Obj} {vs : List Value} {news : List (Addr × Obj)} {na : Nat} {J : Jc}
    {RR : Value → Addr → Result → Shared → Prop}
    (hoa : oa = Mine.lst vs na) (hh : A.handled = none) (hsz : vs.length ≤ 1000000) (hcell : ∀ y ∈ scope.names, y.2 ≠ .cell) (hkind : scope.kind = .function) (hx : scope.names.lookup x = some .local) (hx₂ : scope.names.lookup x₂ = some .local) (hxx : x ≠ x₂)
    (hIt : s₂.heap.IsListIter I ax 0) (hne : ax ≠ I) (hIlt : I < s₂.heap.objs.size)
    (F : Fr h₀ L s₂.heap m) (N : News h₀ L s₂.heap news) (hIL : L ≠ I) (hI₀ : h₀.get? I = none) (off : ∀ p ∈ news, p.1 ≠ I) (hS : (ax, oa) ∈ news) (h0 : J 0 [] news)
    (R : PairRest w A h₀ L m env ct elt x x₂ scope cl s₂ ax oa vs J)
    (hRR : ∀ D C h tk m' ys news', Fr h₀ L h m → News h₀ L h ((D, LCg.lst ys) :: news') → Off1 D news' → h.Ns C m' → h₀.get? C = none → C ≠ L → C ≠ D → (∀ p ∈ news', p.1 ≠ C) → J vs.length ys news' → RR (.ref D) C (.ok .next) { s₂ with heap := h, toks := tk }) :
    wpAny (model prg w) A (newList []) (fun acc s₃ => wpAny (model prg w) A (newFunctionEnv scope env.globals cl [] env.qual none .none (some env)) (fun cenv s₄ =>
      codeAny (model prg w) A (.compStart (.ListComp elt [⟨.Tuple [.Name x px, .Name x₂ px₂] ntk tp, iter, [ct], 0⟩] scope pos) 0 (.ref I) acc { cenv with scope := relabel scope env }) (RR acc cenv.locals) s₄) E s₃) E s₂ := by
  subst hoa
  have W := Walks.list (prog := prg) (w := w) hh I ax hne vs.toArray
  have up : ∀ nw, News h₀ L s₂.heap nw → ∀ b o, (b, o) ∈ nw → b < s₂.heap.objs.size := fun nw N b o hb => Heap.lt_size (N _ hb).1
  refine wpAny_newObj_type (wpAny_newFunctionEnv hcell (by intro y hy; simp at hy) (fun h₁ hns₁ hsb₁ => ?_) hkind)
  dsimp only at hns₁ hsb₁ ⊢
  generalize hH2 : s₂.heap.push { cls := .type "list", dict := none, data := .seq ([] : List Value).toArray } = H2 at hns₁ hsb₁ ⊢
  generalize hDd : s₂.heap.objs.size = D at *
  have hC : H2.objs.size = D + 1 := by rw [← hH2, Heap.size_push, hDd]
  generalize hCc : H2.objs.size = C at *
  have lt1 : ∀ {b : Nat}, b < D → b ≠ C ∧ b ≠ D := fun {b} hb => ⟨by omega, by omega⟩
  have hDC : @Ne Nat D C := by omega
  have old : ∀ b o, s₂.heap.get? b = some o → h₁.get? b = some o := fun b o e => by
    have hb : b < D := hDd ▸ Heap.lt_size e
    exact hsb₁.extBut b o (lt1 hb).1 (Heap.get?_push_of_some _ (hH2 ▸ Heap.get?_push_of_some _ e))
  have hacc : h₁.get? D = some (LCg.lst []) := hsb₁.extBut _ _ hDC (Heap.get?_push_of_some _ (hH2 ▸ hDd ▸ Heap.get?_push_size _ rfl))
  have new0 : ∀ a, D ≤ a → h₀.get? a = none := fun a ha => by
    cases e : h₀.get? a with
    | none => rfl
    | some o' => exact absurd (Heap.lt_size (F.keep a o' e)) (by rw [hDd]; exact Nat.not_lt.mpr ha)
  have hD₀ := new0 D (Nat.le_refl _)
  have hC₀ := new0 C (by omega)
  have hLlt : L < D := hDd ▸ F.ns.lt
  have hDL : D ≠ L := Ne.symm (lt1 hLlt).2
  have hCL : C ≠ L := Ne.symm (lt1 hLlt).1
  have hCI : I ≠ C := (lt1 hIlt).1
  have hDI : I ≠ D := (lt1 hIlt).2
  have hax := N _ hS
  have haxD : ax < D := up _ N _ _ hS
  have off₀ : Off3 I C D news := Off3.of fun p hp => ⟨off p hp, (lt1 (up _ N p.1 p.2 hp)).1, (lt1 (up _ N p.1 p.2 hp)).2⟩
  have lat : ∀ {h nw}, News h₀ L h nw → (ax, Mine.lst vs na) ∈ nw → h.IsList ax vs.toArray := fun N hm => ⟨_, (N _ hm).1, rfl, _, rfl⟩
  have loop : ∀ s₃ : Shared, s₃ = { s₂ with heap := h₁, toks := s₂.toks + ([] : List (Str × Value)).length } →
      codeAny (model prg w) A (.compLoop (.ListComp elt [⟨.Tuple [.Name x px, .Name x₂ px₂] ntk tp, iter, [ct], 0⟩] scope pos) 0 (.ref I) (.ref D) (compEnvC scope cl C env)) (RR (.ref D) C) s₃ := by
    rintro s₃ rfl
    refine kct_loop
      (fun k s' => ∃ h' tk i ys m' news', s' = { s₂ with heap := h', toks := tk } ∧ i ≤ vs.length ∧ k = vs.length + 1 - i ∧ ys.length ≤ i ∧ h'.IsListIter I ax i ∧ Fr h₀ L h' m ∧ h'.Ns C m' ∧ News h₀ L h' ((D, LCg.lst ys) :: news') ∧
        Off3 I C D news' ∧ (ax, Mine.lst vs na) ∈ news' ∧ J i ys news') ?_ (vs.length + 1)
      ⟨h₁, _, 0, [], _, news, rfl, Nat.zero_le _, rfl, Nat.le_refl _, ?_, F.keeps old, hns₁, fun p hp => ?_, off₀, hS, h0⟩
    · rintro k s' ⟨h', tk, i, ys, m', news', rfl, hi, rfl, hyl, hit', F', hn', N', off', hS', hJ⟩
      have off3 := off'.mem
      have st' : h'.IsListIter I ax i ∧ h'.IsList ax vs.toArray := ⟨hit', lat N' (.tail _ hS')⟩
      by_cases hlt : i < vs.length
      · refine W.item i _ _ _ (by simpa using hlt) st' fun v h₂ tk₂ hPv hst₂ hk₂ => ?_
        refine E4_3 (R i ys news' v (by simpa using hPv) hJ) ?_; intro t v₁ v₂ nt hq0 hmt R'; obtain rfl := hq0
        have N₂ : News h₀ L h₂ ((D, LCg.lst ys) :: news') := news_but N' hk₂ fun p hp => by
          rcases List.mem_cons.mp hp with rfl | hp
          · exact Ne.symm hDI
          · exact (off3 p hp).1
        have ht : IsTup h₂ t #[v₁, v₂] := ⟨_, (N₂ _ (.tail _ hmt)).1, rfl, nt, rfl⟩
        refine wpAny_letOwnedTupleGo_listiter hst₂.1 ?_
        refine assign_Tuple_tuple hh ht rfl rfl fun h₅ he => ?_
        have he' : ∀ b o, h₂.get? b = some o → h₅.get? b = some o := fun b o e => he b o (Nat.ne_of_lt (Heap.lt_size e)) e
        refine assignInOrder_cons (wpAny_assign_Name (wpAny_storeName_local (lookup_relabel_local hx) ((hn'.at' fun o e => hk₂ _ o (by simpa using Ne.symm hCI) e).at' fun o e => he' _ o e) (fun h₆ hn₆ hs₆ => ?_) (by simp [compEnvC, relabel, hkind])))
        refine assignInOrder_cons (wpAny_assign_Name (wpAny_storeName_local (lookup_relabel_local hx₂) hn₆ (fun h₃ hn₃ hs₃ => ?_) (by simp [compEnvC, relabel, hkind])))
        refine assignInOrder_nil ?_
        have old3 : ∀ b o, b ≠ C → h₂.get? b = some o → h₃.get? b = some o := fun b o hb e => hs₃.extBut b o hb (hs₆.extBut b o hb (he' b o e))
        refine E1_2 (hst₂.1) ?_; intro oI heI hcI
        have heI3 := old3 _ _ hCI heI
        refine E1_2 (ns_obj hn₃) ?_; intro oC heC hoC
        have F₃ : Fr h₀ L h₃ m := (((fr_but F' hk₂ hIL hI₀).keeps he').change hs₆ hCL hC₀).change hs₃ hCL hC₀
        have N₃ : News h₀ L h₃ ((I, oI) :: (C, oC) :: (D, LCg.lst ys) :: news') := fun p hp => by
          rcases List.mem_cons.mp hp with rfl | hp
          · exact ⟨heI3, Ne.symm hIL, hI₀⟩
          · rcases List.mem_cons.mp hp with rfl | hp
            · exact ⟨heC, hCL, hC₀⟩
            · have z := N₂ p hp
              refine ⟨old3 _ _ ?_ z.1, z.2⟩
              rcases List.mem_cons.mp hp with rfl | hp
              · exact hDC
              · exact (off3 p hp).2.1
        refine wpAny_mono (R' I oI C oC D _ h₃ _ _ hoC (by simp [hxx]) (by simp) F₃ N₃ off3 ⟨hCI, hDI, Ne.symm hDC⟩) (fun ok s₄ h₄ => ?_) fun _ _ e => e
        have go : ∀ {ys' : List Value} {h₅ : Heap} {tk₄ news₄}, h₅.get? I = some oI → h₅.get? C = some oC → Fr h₀ L h₅ m → News h₀ L h₅ ((D, LCg.lst ys') :: news₄) → Off3 I C D news₄ → (ax, Mine.lst vs na) ∈ news₄ → J (i + 1) ys' news₄ → ys'.length ≤ i + 1 →
            ∃ k, k < vs.length + 1 - i ∧ ∃ h' tk i ys m' news', ({ s₂ with heap := h₅, toks := tk₄ } : Shared) = { s₂ with heap := h', toks := tk } ∧ i ≤ vs.length ∧ k = vs.length + 1 - i ∧ ys.length ≤ i ∧ h'.IsListIter I ax i ∧ Fr h₀ L h' m ∧ h'.Ns C m' ∧ News h₀ L h' ((D, LCg.lst ys) :: news') ∧
              Off3 I C D news' ∧ (ax, Mine.lst vs na) ∈ news' ∧ J i ys news' := fun zI zC F₄ N₄ off₄ hS₄ R₄ hl =>
          ⟨vs.length + 1 - (i + 1), by omega, _, _, i + 1, _, _, _, rfl, hlt, rfl, hl, ⟨oI, zI, hcI⟩, F₄, hoC.ns zC, N₄, off₄, hS₄, R₄⟩
        cases ok with
        | true =>
          simp only [if_true] at h₄ ⊢
          refine wpAny_mono h₄ (fun y s₅ h₅ => ?_) fun _ _ e => e
          refine E3_6 (h₅) ?_; (try clear h₅); intro h₄ tk₄ news₄ hq1 F₄ N₄ off₄ hS₄ R₄; obtain rfl := hq1
          have zI := (N₄ (I, oI) (.head _)).1
          have zC := (N₄ (C, oC) (.tail _ (.head _))).1
          have zD := (N₄ (D, LCg.lst ys) (.tail _ (.tail _ (.head _)))).1
          have off4 := off₄.mem
          refine append_at (hsz := by show ys.toArray.size ≤ sizeLine; rw [List.size_toArray, sizeLine_eq]; omega) zD fun h₅ hs₅ hD₅ => ?_
          refine go (hs₅.extBut _ _ hDI zI) (hs₅.extBut _ _ (Ne.symm hDC) zC) (F₄.change hs₅ hDL hD₀) (fun p hp => ?_) off₄ hS₄ R₄ (by rw [List.length_append, List.length_singleton]; omega)
          rcases List.mem_cons.mp hp with rfl | hp
          · exact ⟨hD₅.trans (congrArg some (lst_snoc ys y)), hDL, hD₀⟩
          · have z := N₄ p (.tail _ (.tail _ (.tail _ hp)))
            exact ⟨hs₅.extBut _ _ (off4 p hp).2.2 z.1, z.2⟩
        | false =>
          simp only [Bool.false_eq_true, if_false] at h₄ ⊢
          refine E3_6 (h₄) ?_; (try clear h₄); intro h₅ tk₄ news₄ hq2 F₄ N₄ off₄ hS₄ R₄; obtain rfl := hq2
          exact go (N₄ (I, oI) (.head _)).1 (N₄ (C, oC) (.tail _ (.head _))).1 F₄ (fun p hp => N₄ p (.tail _ (.tail _ hp))) off₄ hS₄ R₄ (by omega)
      · obtain rfl : i = vs.length := by omega
        refine W.done _ _ _ (by simpa using st') fun h₂ tk₂ hk₂ => ?_
        exact hRR _ _ h₂ tk₂ _ ys news' (fr_but F' hk₂ hIL hI₀) (news_but N' hk₂ fun p hp => by
          rcases List.mem_cons.mp hp with rfl | hp
          · exact Ne.symm hDI
          · exact (off3 p hp).1) off'.one (hn'.at' fun o e => hk₂ _ o (by simpa using Ne.symm hCI) e) hC₀ hCL (Ne.symm hDC) (fun p hp => (off3 p hp).2.1) hJ
    · exact ⟨_, old _ _ hIt.choose_spec.1, hIt.choose_spec.2⟩
    · rcases List.mem_cons.mp hp with rfl | hp
      · exact ⟨hacc, hDL, hD₀⟩
      · exact ⟨old _ _ (N p hp).1, (N p hp).2⟩
  refine codeAny_compStart_list (loop _ rfl) (W.self 0 _ _ _ ⟨⟨_, old _ _ hIt.choose_spec.1, hIt.choose_spec.2⟩, ⟨_, old _ _ hax.1, rfl, _, rfl⟩⟩ (loop _ rfl))
def SrcPT (w : World) (A : Around) (h₀ : Heap) (L : Addr) (m : Str → Option Value) (env : Env) (ct elt : PySem.Expr) (x x₂ : Str) (scope : Scope) (cl : List (Str × Addr)) (Fin : Shared → List Value → List (Addr × Obj) → Prop) (xv : Value) (s₁ : Shared) : Prop :=
  ∃ ax vs k news J, xv = .ref ax ∧ A.handled = none ∧ Fr h₀ L s₁.heap m ∧ News h₀ L s₁.heap news ∧ (ax, Mine.lst vs k) ∈ news ∧ vs.length ≤ 1000000 ∧ J 0 [] news ∧
    (∀ g, PairRest w A h₀ L m env ct elt x x₂ scope cl { s₁ with heap := g } ax (Mine.lst vs k) vs J) ∧ ∀ g ys news, J vs.length ys news → Fin { s₁ with heap := g } ys news
theorem ListComp_PT {ct elt iter : PySem.Expr} {x x₂ : Str} {px px₂ tp : Pos} {ntk : Nat} {scope : Scope} {cl : List (Str × Addr)} {pos : Pos} {Q : Value → Shared → Prop} (F₀ : Fr h₀ L s.heap m)
    (hclos : closureFor scope env = pure cl) (hcell : ∀ y ∈ scope.names, y.2 ≠ .cell) (hkind : scope.kind = .function)
    (hnames : ∀ y ∈ scope.names, y.2 = .local → scope.names.lookup y.1 = some .local) (hx : scope.names.lookup x = some .local) (hx₂ : scope.names.lookup x₂ = some .local) (hxx : x ≠ x₂)
    (h : wpAny (model prg w) A (eval iter env) (SrcPT w A h₀ L m env ct elt x x₂ scope cl (fun s₂ => FinE h₀ L m s₂ Q)) E s)
    (hs : ∀ x, foldedSetIterable iter env x = pure x := by intro _; rfl) :
    wpAny (model prg w) A (eval (.ListComp elt [⟨.Tuple [.Name x px, .Name x₂ px₂] ntk tp, iter, [ct], 0⟩] scope pos) env) Q E s := by
  rw [eval_ListComp]
  refine wpAny_comprehension_free (use := none) rfl hs hclos hkind hnames (wpAny_mono h (fun xv s₁ h₁ => ?_) fun _ _ e => e)
  refine E5_9 (h₁) ?_; (try clear h₁); intro ax vs k news J hq3 hh F N hm hz h0 R fin; obtain rfl := hq3
  have hl : s₁.heap.IsList ax vs.toArray := ⟨_, (N _ hm).1, rfl, _, rfl⟩
  have hlt : ax < s₁.heap.objs.size := Heap.lt_size (N _ hm).1
  refine wpAny_pyIter_list hl ?_
  have up : ∀ b o, s₁.heap.get? b = some o → (s₁.heap.push { cls := .type "list_iterator", data := .fields #[.ref ax, .int 0 0] }).get? b = some o := fun b o e => Heap.get?_push_of_some _ e
  refine pair_block (J := J) rfl hh hz hcell hkind hx hx₂ hxx ⟨_, Heap.get?_push_size _ rfl, rfl, rfl⟩ (Nat.ne_of_lt hlt) ?_ (F.keeps up) (N.grown up) (Nat.ne_of_lt F.ns.lt) (next_is_new F) (fun p hp => Nat.ne_of_lt (Heap.lt_size (N p hp).1)) hm h0 (R _) ?_
  · show _ < (s₁.heap.push _).objs.size
    rw [Heap.size_push]
    exact Nat.lt_succ_self _
  · intro D C h tk m' ys news' F' N' o1 hn hC₀ hCL hCD offC hj
    refine ⟨m', hn, fun h'' hs'' => fin (s₁.heap.push { cls := .type "list_iterator", data := .fields #[.ref ax, .int 0 0] }) ys news' hj D h'' tk (F'.change hs'' hCL hC₀) (fun p hp => ?_) o1⟩
    refine ⟨hs''.extBut _ _ ?_ (N' p hp).1, (N' p hp).2⟩
    rcases List.mem_cons.mp hp with rfl | hp
    · exact Ne.symm hCD
    · exact offC p hp
theorem comp_pair_J {ct elt : PySem.Expr} {x x₂ : Str} {scope : Scope} {cl : List (Str × Addr)} {Fin : Shared → List Value → List (Addr × Obj) → Prop} {ax : Addr} {vs : List Value} {k : Nat} {news : List (Addr × Obj)} {s₁ : Shared} (J : Jc)
    (hh : A.handled = none) (F : Fr h₀ L s₁.heap m) (N : News h₀ L s₁.heap news) (hm : (ax, Mine.lst vs k) ∈ news) (hz : vs.length ≤ 1000000) (h0 : J 0 [] news)
    (turn : Later (∀ g, PairRest w A h₀ L m env ct elt x x₂ scope cl { s₁ with heap := g } ax (Mine.lst vs k) vs J))
    (fin : Later (∀ g ys news, J vs.length ys news → Fin { s₁ with heap := g } ys news)) : SrcPT w A h₀ L m env ct elt x x₂ scope cl Fin (.ref ax) s₁ := ⟨ax, vs, k, news, J, rfl, hh, F, N, hm, hz, h0, turn, fin⟩
end

-- part p17_referring.lean
section
open LCg LCt PySem.Calls PyProof.V PySem.Spec
local macro_rules | `(tactic| walk_at "call ref") => `(tactic| k_extra "W13")
local macro_rules | `(tactic| k_all) => `(tactic| k_extra "W30")
local macro_rules | `(tactic| walk_at "compareOp NotEq ref ref") => `(tactic| k_extra "W33")
local macro_rules | `(tactic| walk_at "WhlRest") => `(tactic| refine stopAt ?_)
local macro_rules | `(tactic| walk_at "subscriptTail Name Slice ref ref") => `(tactic| (k_extra "W34"; intro D' h' l1 F' N'; (try k_lt l1); (try dsimp only)))
local macro_rules | `(tactic| walk_at "call builtin:list.pop") => `(tactic| (k_extra "W35"; intro h' F' N'; (try dsimp only at N'); (try dsimp only)))
local macro_rules | `(tactic| walk_at "call builtin:list.extend") => `(tactic| (k_extra "W36"; intro h' n' F' N'; (try dsimp only at N'); (try dsimp only)))

variable (w : World) {dp un : Nat} {gd : Option (List Code)} {env : Env} {outer : List Env} {h₀ : Heap} {L : Addr} {m : Str → Option Value} {s : Shared} {Q E : Value → Shared → Prop} {news Z : List (Addr × Obj)}
    {t td rl : Addr} {rn : Nat} {tk : Tok} {rows : List NR} {k : Int} {ti : Tok} {R : NR}
theorem words30 : True := by
  k_with "W42" => (k_here; (try dsimp only); k_dflt (first | (refine' walk_t _ ?C ?hT ?h0 ?hi ?ks ?W ?n ?hd ?hu ?_; k_extra "RD.2"; (case ks => assumption); (case W => assumption); (case n => assumption); k_whole; (intro lw vw nw h' tk' l1 hvw F' N'); (try k_lt l1); (try dsimp only)) | (refine' refs_t _ ?C ?hT ?h0 ?hi ?hs ?H ?he ?ha ?hz ?hd ?hu ?_; k_extra "RD.2"; k_extra "RDTD"; (case ha => assumption); (case hz => omega); k_whole; (intro lr vr nr Zr h' tk' hsr hor hvr F' N'); (try dsimp only))))
  k_with "W43" => (k_here; k_dflt (refine ListComp_PT (F₀ := by k_asm) (by with_unfolding_all rfl) (by decide) (by rfl) (by decide) (by rfl) (by rfl) (by decide) ?_))
  trivial
local macro_rules | `(tactic| walk_at "call ref") => `(tactic| k_extra "W42")
local macro_rules | `(tactic| walk_at "eval ListComp") => `(tactic| k_extra "W43")
local macro_rules | `(tactic| walk_at "SrcPT") => `(tactic| refine stopAt ?_)

def refersP (nm : Str) (e : EI) : Bool := (refsP e.rs e.as).any fun p => decide (p.2 = nm)
def referOf (nm : Str) (l : List EI) : List Int := (l.filter (refersP nm)).map EI.node
theorem referOf_step {nm : Str} {l : List EI} {i : Nat} {e : EI} (h : l[i]? = some e) : referOf nm (l.take (i + 1)) = if refersP nm e = true then referOf nm (l.take i) ++ [e.node] else referOf nm (l.take i) := by
  unfold referOf
  rw [List.take_succ, h, List.filter_append, List.map_append]
  by_cases hb : refersP nm e = true <;> simp [hb]
abbrev rfrM (tr x lf : Addr) (k : Int) (ti : Tok) (oe : Option Value) : Str → Option Value := mk [(st "element", oe), (st "found", some (.ref lf)), (st "dtd", some (.ref x)), (st "root", some (.int k ti)), (st "tree", some (.ref tr))]
def rfrJ (tr x lf : Addr) (k : Int) (ti : Tok) (nm : Str) (es : List EI) (fix : List (Addr × Obj)) : Jt := fun i m n => ∃ oe fv nf, m = rfrM tr x lf k ti oe ∧ n = (lf, lst fv nf) :: fix ∧ IntsAre fv (referOf nm (es.take i))
def onesJ (nm : Str) (ps : List (Int × Str)) (news : List (Addr × Obj)) : Jc := fun i ys n => n = news ∧ ∃ l : List Int, IntsAre ys l ∧ decide (l = []) = !(ps.take i).any fun p => decide (p.2 = nm)
theorem any_step {nm : Str} {ps : List (Int × Str)} {i : Nat} {p : Int × Str} (h : ps[i]? = some p) : (ps.take (i + 1)).any (fun p => decide (p.2 = nm)) = ((ps.take i).any (fun p => decide (p.2 = nm)) || decide (p.2 = nm)) := by
  rw [List.take_succ, h, List.any_append]; simp
theorem referring_t {x : Addr} {tab : Tab} {ks out : List Int} {n₀ : Nat} {es : List EI} {nm : Str} {tn : Tok} (C : Cx w outer h₀ L env m s.heap news) (hT : TreeIn w.params news t td rl rn tk rows) (h0 : 0 ≤ k) (hi : rows[k.toNat]? = some R)
    (hks : IntsAre R.kv ks) (hW : WalkR rows ks out n₀) (hn : n₀ ≤ 1000) (hE : All2 (ElemIs rows tab) out es) (hs : ∀ p ∈ Z, p ∈ news) (H : DtdIn w Z x tab) (hz : (refsAll es).length ≤ 1000)
    (hd : dp + 7 < recursionLimit) (hu : un + 220 < cLine)
    (ret : ∀ l vs n h' tk', (∀ p ∈ news, p.1 < l) → IntsAre vs (referOf nm es) → Fr h₀ L h' m → News h₀ L h' ((l, lst vs n) :: news) → Q (.ref l) { s with heap := h', toks := tk' }) :
    wpAny (model prg w) (aT dp un gd env outer) (call (.ref 75) [.ref t, .int k ti, .ref x, .str nm tn]) Q E s := by
  refine C.elim ?_; intro A₀ base mean mg mb B T F N X hf hk
  k_extra "FILL"
  k_extra "ENTERC"
  replace F' := Fr.of_eq (bindL_mk (l := [(st "dtd", .ref x), (st "root", .int k ti), (st "tree", .ref t)]) (by with_unfolding_all rfl)) F'
  rename_i o1 dd1
  replace dd1 : o1.data = .cell (some (.str nm tn)) := dd1
  k_steps
  refine goOn ?_
  rename News _ _ _ _ => N1
  rename Fr g' _ _ _ => F1
  rename_i lf _ _ _ _ _ _ _ _
  replace F1 := Fr.of_eq (m' := rfrM t x lf k ti none) (mk_of2 (by k_extra "OFFM") rfl) F1
  have hLlf : L' + 1 < lf := by omega
  have hnlf : ∀ p ∈ news, p.1 < lf := by first | assumption | exact allLt_out (by assumption)
  have hoffl : ∀ p ∈ (lw, lst vw nw) :: (L' + 1, o1) :: news, p.1 ≠ lf := Offs.mem (by walk_at "OFFS")
  have heo : es.length ≤ 1000 := by rw [← hE.length]; have := hW.len; omega
  refine' for_list_J (news := (lf, lst [] 0) :: (lw, lst vw nw) :: (L' + 1, o1) :: news) (rfrJ t x lf k ti nm es ((lw, lst vw nw) :: (L' + 1, o1) :: news)) rfl F1 (news_sub N1 ?sb) (.tail _ (.head _)) ⟨none, [], 0, rfl, rfl, .nil⟩ (goOn ?turn) (goOn ?done)
  case sb => k_extra "SUB"
  case turn =>
    intro I i v m1 n1 it h3 tk3 hv hI hoff hm hJ hc F2 N2
    try k_fold
    refine E3_3 (hJ) ?_; (try clear hJ); intro oe fv nf hq4 hq5 hfv; obtain rfl := hq4; obtain rfl := hq5
    refine E2_2 (ints_get hvw hv) ?_; intro xe te hq6 hxe; obtain rfl := hq6
    refine E1_2 (hE.get hxe) ?_; intro e hei hr7; refine E1_6 (hr7) ?_; (try clear hr7); intro RE e0 een er etab eok eav
    have hz9 := refsAll_take (es := es) (i + 1)
    rw [refsAll_step hei, List.length_append] at hz9
    have hfl := hfv.length
    have hfl2 : (referOf nm (es.take i)).length ≤ 1000 := by unfold referOf; rw [List.length_map]; exact Nat.le_trans (List.length_filter_le _ _) (by rw [List.length_take]; omega)
    k_steps
    refine goOn ?_
    rename News _ _ _ _ => N3
    rename Fr g' _ _ _ => F3
    have hcm := hsr _ (.tail _ (.tail _ (.tail _ (.head _))))
    have hvl := hvr.length
    refine' comp_pair_J (onesJ nm (refsP e.rs e.as) ((lr, lst vr nr) :: Zr)) rfl F3 N3 (.head _) (by omega) ⟨rfl, [], .nil, rfl⟩ (goOn ?turn2) (goOn ?fin2)
    case turn2 =>
      intro g j ys n2 v2 hv2 hJ2
      refine E0_2 (hJ2) ?_; (try clear hJ2); intro hq8 hr9; obtain rfl := hq8; refine E1_2 (hr9) ?_; (try clear hr9); intro l2 hl2 hb2
      refine E1_2 (hvr.get hv2) ?_; intro pp hpp hr0; refine E4_2 (hr0) ?_; (try clear hr0); intro av nn tt1 tt2 hq1 hmt; obtain rfl := hq1
      refine ⟨av, _, _, nn, rfl, .tail _ hmt, ?_⟩
      intro I2 oI C oC D m2 h4 tk4 E2 hC hx1 hx2 F4 N4 hoff2 hne2
      try k_fold
      k_steps
      · rename (_ = true) => hb
        refine CEnd.fin _ F4 N4 (fun p hp => hp) hoff2 (.head _) ⟨rfl, l2 ++ [1], ints_append hl2 (.cons _ _ .nil), ?_⟩
        have hq : decide (pp.2 = nm) = true := by simpa using hb
        rw [any_step hpp, hq, Bool.or_true]
        exact decide_eq_false (by simp)
      · rename (_ = false) => hb
        refine CEnd.fin _ F4 N4 (fun p hp => hp) hoff2 (.head _) ⟨rfl, l2, hl2, ?_⟩
        have hq : decide (pp.2 = nm) = false := by simpa using hb
        rw [any_step hpp, hq, Bool.or_false]
        exact hb2
    case fin2 =>
      intro g ys n2 hJ2
      refine E0_2 (hJ2) ?_; (try clear hJ2); intro hq2 hr3; obtain rfl := hq2; refine E1_2 (hr3) ?_; (try clear hr3); intro l2 hl2 hb2
      rw [hvl, List.take_length] at hb2
      replace hb2 : decide (l2 = []) = !refersP nm e := hb2
      k_steps
      refine goOn ?_
      rename News _ _ _ _ => N5
      refine ke_ne_ints (isList_mem N5 (.tail _ (.head _))) (isList_mem N5 (.head _)) hl2 .nil ?un ?_
      case un => ktr_units
      replace N5 := news_sub N5 (b := (I, it) :: (lf, lst fv nf) :: (lw, lst vw nw) :: (L' + 1, o1) :: news) fun p hp => .tail _ (.tail _ (.tail _ (hsr p hp)))
      rw [hb2, Bool.not_not]
      have hIlf := fun e => hoff (lf, lst fv nf) (.head _) (Eq.symm e)
      replace hIlf := neN hIlf
      have hst := referOf_step (nm := nm) hei
      cases hrf : refersP nm e with
      | true =>
        rw [hrf, if_pos rfl] at hst
        k_steps
        rename News _ _ _ _ => N6
        rename Fr g' _ _ _ => F6
        refine JPost.fin _ F6 N6 (fun p hp => hp) ?_ ⟨.tail _ (.head _), some (.int xe te), _, _, ?_, rfl, ?_⟩
        · intro p hp
          rcases List.mem_cons.mp hp with rfl | hp
          · exact hoff (lf, lst fv nf) (.head _)
          · exact hoff p (.tail _ hp)
        · k_extra "MAP"
        · rw [hst, een]; exact ints_append hfv (.cons _ _ .nil)
      | false =>
        rw [hrf, if_neg (by decide)] at hst
        k_steps
        rename News _ _ _ _ => N6
        rename Fr g' _ _ _ => F6
        refine JPost.fin _ F6 N6 (fun p hp => hp) hoff ⟨.tail _ (.head _), some (.int xe te), _, _, ?_, rfl, ?_⟩
        · k_extra "MAP"
        · rw [hst]; exact hfv
  case done =>
    intro m1 n1 h3 tk3 hm hJ F2 N2
    try k_fold
    refine E3_3 (hJ) ?_; (try clear hJ); intro oe fv nf hq4 hq5 hfv; obtain rfl := hq4; obtain rfl := hq5
    rw [hvw.length, hE.length, List.take_length] at hfv
    k_steps
    rename News h₀ _ _ _ => N3
    exact ret _ _ _ _ _ hnlf hfv (by k_asm) (news_sub N3 (by k_extra "SUB"))
end

-- part p18_node.lean
section
open PySem.Calls PyProof.V PySem.Spec
variable (w : World) {dp un : Nat} {gd : Option (List Code)} {env : Env} {outer : List Env} {h₀ : Heap} {L : Addr} {m : Str → Option Value} {s : Shared} {Q E : Value → Shared → Prop} {news : List (Addr × Obj)}
theorem tree_t (C : Cx w outer h₀ L env m s.heap news) (hd : dp + 3 < recursionLimit) (hu : un + 24 < cLine)
    (ret : ∀ (x d rl : Addr) k h' tk', (∀ p ∈ news, p.1 < d) → @LT.lt Nat _ d x → @LT.lt Nat _ x rl → Fr h₀ L h' m → News h₀ L h' ((rl, lst [] 0) :: (x, instObj 445 d) :: (d, dictOf [ent w.params "rows" k (.ref rl)] 1) :: news) → Q (.ref x) { s with heap := h', toks := tk' }) :
    wpAny (model prg w) (aT dp un gd env outer) (call (.ref 445) []) Q E s := by
  refine C.elim ?_; intro A₀ base mean mg mb B T F N X hf hk
  k_extra "FILL"
  k_extra "CLS"
  replace F' := Fr.of_eq (mk_binds [(Str.ofString "self", .ref x')]) F'
  k_steps
  refine' ret x' d' _ _ _ _ l1 l2 ?a ?F ?N
  case N => k_asm
  case F => k_asm
  case a => omega
theorem noderow_t {kd nm ur lo va : Str} {pv : Value} {t1 t2 t3 t4 t5 : Tok} (C : Cx w outer h₀ L env m s.heap news) (hd : dp + 3 < recursionLimit) (hu : un + 24 < cLine)
    (ret : ∀ (x d c a ns : Addr) k1 k2 k3 k4 k5 k6 k7 k8 k9 h' tk', (∀ p ∈ news, p.1 < d) → @LT.lt Nat _ d x → @LT.lt Nat _ x c → @LT.lt Nat _ c a → @LT.lt Nat _ a ns → Fr h₀ L h' m →
      News h₀ L h' ((ns, lst [] 0) :: (a, lst [] 0) :: (c, lst [] 0) :: (x, instObj 256 d) :: (d, dictOf [ent w.params "kind" k1 (.str kd t1), ent w.params "name" k2 (.str nm t2), ent w.params "uri" k3 (.str ur t3), ent w.params "local" k4 (.str lo t4), ent w.params "value" k5 (.str va t5),
        ent w.params "parent" k6 pv, ent w.params "children" k7 (.ref c), ent w.params "attributes" k8 (.ref a), ent w.params "namespaces" k9 (.ref ns)] 9) :: news) → Q (.ref x) { s with heap := h', toks := tk' }) :
    wpAny (model prg w) (aT dp un gd env outer) (call (.ref 256) [.str kd t1, .str nm t2, .str ur t3, .str lo t4, .str va t5, pv]) Q E s := by
  refine C.elim ?_; intro A₀ base mean mg mb B T F N X hf hk
  k_extra "FILL"
  k_extra "CLS"
  replace F' := Fr.of_eq (mk_binds [(st "parent", pv), (st "value", .str va t5), (st "local", .str lo t4), (st "uri", .str ur t3), (st "name", .str nm t2), (st "kind", .str kd t1), (Str.ofString "self", .ref x')]) F'
  k_steps
  refine' ret x' d' _ _ _ _ _ _ _ _ _ _ _ _ _ _ l1 l2 ?a ?b ?c ?F ?N
  case N => k_asm
  case F => k_asm
  case a => omega
  case b => omega
  case c => omega
end

-- part p19_newrow.lean
def ta (t td rl : Addr) (rows : List NR) : List Addr := t :: td :: rl :: rows.flatMap fun R => [R.x, R.dx, R.c, R.a, R.ns]
structure TW (P : Params) (all : List (Addr × Obj)) (t td rl : Addr) (rn : Nat) (tk : Tok) (rows : List NR) : Prop where
  T : TreeIn P all t td rl rn tk rows
  nd : (ta t td rl rows).Nodup
def Keep (t td rl : Addr) (rows : List NR) (O all : List (Addr × Obj)) : Prop := ∀ p ∈ O, p ∈ all ∧ p.1 ∉ ta t td rl rows
def NR.New (R : NR) (kd nm ur lo va : Str) (pv : Value) : Prop := R.kind = kd ∧ R.name = nm ∧ R.uri = ur ∧ R.loc = lo ∧ R.value = va ∧ R.parent = pv ∧ R.kv = [] ∧ R.av = []
theorem ta_snoc (t td rl : Addr) (rows : List NR) (R : NR) : ta t td rl (rows ++ [R]) = ta t td rl rows ++ [R.x, R.dx, R.c, R.a, R.ns] := by simp [ta]
theorem TreeIn.addr {P : Params} {all : List (Addr × Obj)} {t td rl : Addr} {rn : Nat} {tk : Tok} {rows : List NR} (h : TreeIn P all t td rl rn tk rows) : ∀ a ∈ ta t td rl rows, ∃ o, (a, o) ∈ all := by
  intro a ha
  unfold ta at ha
  rcases List.mem_cons.mp ha with rfl | ha
  · exact ⟨_, h.h1⟩
  rcases List.mem_cons.mp ha with rfl | ha
  · exact ⟨_, h.h2⟩
  rcases List.mem_cons.mp ha with rfl | ha
  · exact ⟨_, h.h3⟩
  refine E1_2 (List.mem_flatMap.mp ha) ?_; intro R hR ha
  have h4 := h.h4 R hR
  unfold NR.led at h4
  simp only [List.mem_cons, List.not_mem_nil, or_false] at ha
  rcases ha with rfl | rfl | rfl | rfl | rfl
  · exact ⟨_, h4 _ (.head _)⟩
  · exact ⟨_, h4 _ (.tail _ (.head _))⟩
  · exact ⟨_, h4 _ (.tail _ (.tail _ (.head _)))⟩
  · exact ⟨_, h4 _ (.tail _ (.tail _ (.tail _ (.head _))))⟩
  · exact ⟨_, h4 _ (.tail _ (.tail _ (.tail _ (.tail _ (.head _)))))⟩
theorem led_fst {P : Params} {R : NR} {rows : List NR} (h : R ∈ rows) : ∀ p ∈ R.led P, p.1 ∈ rows.flatMap fun R => [R.x, R.dx, R.c, R.a, R.ns] := fun p hp => by
  refine List.mem_flatMap.mpr ⟨R, h, ?_⟩
  unfold NR.led at hp
  simp only [List.mem_cons, List.not_mem_nil, or_false] at hp ⊢
  rcases hp with rfl | rfl | rfl | rfl | rfl <;> simp
theorem strip_of' {l : Addr} {all : List (Addr × Obj)} {p : Addr × Obj} (hp : p ∈ all) (h : p.1 ≠ l) : p ∈ strip l all := List.mem_filter.mpr ⟨hp, decide_eq_true h⟩
theorem TW.rlne {P : Params} {all : List (Addr × Obj)} {t td rl : Addr} {rn : Nat} {tk : Tok} {rows : List NR} (W : TW P all t td rl rn tk rows) : t ≠ rl ∧ td ≠ rl ∧ rl ∉ rows.flatMap fun R => [R.x, R.dx, R.c, R.a, R.ns] := by
  have nd := W.nd
  unfold ta at nd
  simp only [List.nodup_cons, List.mem_cons, not_or] at nd
  exact ⟨nd.1.2.1, nd.2.1.1, nd.2.2.1⟩
theorem TW.snoc {P : Params} {all : List (Addr × Obj)} {t td rl : Addr} {rn rn' : Nat} {tk : Tok} {rows : List NR} (W : TW P all t td rl rn tk rows) (hz : rows.length < 1000) (R : NR) (hk : R.kv.length ≤ 1000 ∧ R.av.length ≤ 1000) (q0 : @LT.lt Nat _ rl R.dx) (q1 : ∀ p ∈ strip rl all, p.1 < R.dx) (q2 : @LT.lt Nat _ R.dx R.x) (q3 : @LT.lt Nat _ R.x R.c) (q4 : @LT.lt Nat _ R.c R.a) (q5 : @LT.lt Nat _ R.a R.ns) {all' : List (Addr × Obj)}
    (he : (R.ns, lst [] 0) :: (R.a, lst R.av R.an) :: (R.c, lst R.kv R.kn) :: (R.x, instObj 256 R.dx) :: (R.dx, R.dict P) :: (rl, lst (rows.map (fun R => .ref R.x) ++ [.ref R.x]) rn') :: strip rl all = all') :
    TW P all' t td rl rn' tk (rows ++ [R]) ∧ ∀ O, Keep t td rl rows O all → Keep t td rl (rows ++ [R]) O all' := by
  subst he
  refine E0_3 (W.rlne) ?_; intro e1 e2 e3
  have lo : ∀ p ∈ all, @LT.lt Nat _ p.1 R.dx := fun p hp => by
    by_cases e : p.1 = rl
    · rw [e]; exact q0
    · exact q1 p (strip_of' hp e)
  have loA : ∀ a ∈ ta t td rl rows, @LT.lt Nat _ a R.dx := fun a ha => by obtain ⟨o, h⟩ := W.T.addr a ha; exact lo _ h
  have new : ∀ a ∈ [R.x, R.dx, R.c, R.a, R.ns], ¬ @LT.lt Nat _ a R.dx := fun a ha => by
    simp only [List.mem_cons, List.not_mem_nil, or_false] at ha
    rcases ha with rfl | rfl | rfl | rfl | rfl <;> omega
  have up : ∀ p ∈ all, p.1 ≠ rl → p ∈ (R.ns, lst [] 0) :: (R.a, lst R.av R.an) :: (R.c, lst R.kv R.kn) :: (R.x, instObj 256 R.dx) :: (R.dx, R.dict P) :: (rl, lst (rows.map (fun R => .ref R.x) ++ [.ref R.x]) rn') :: strip rl all := fun p hp e =>
    .tail _ (.tail _ (.tail _ (.tail _ (.tail _ (.tail _ (strip_of' hp e))))))
  refine ⟨⟨⟨up _ W.T.h1 e1, up _ W.T.h2 e2, ?_, ?_, ?_, ?_⟩, ?_⟩, ?_⟩
  · rw [List.map_append]
    exact .tail _ (.tail _ (.tail _ (.tail _ (.tail _ (.head _)))))
  · intro R' hR p hp
    rcases List.mem_append.mp hR with hR | hR
    · exact up p (W.T.h4 R' hR p hp) fun e => e3 (e ▸ led_fst hR p hp)
    · rw [List.mem_singleton.mp hR] at hp
      unfold NR.led at hp
      simp only [List.mem_cons, List.not_mem_nil, or_false] at hp
      rcases hp with rfl | rfl | rfl | rfl | rfl
      · exact .tail _ (.tail _ (.tail _ (.head _)))
      · exact .tail _ (.tail _ (.tail _ (.tail _ (.head _))))
      · exact .tail _ (.tail _ (.head _))
      · exact .tail _ (.head _)
      · exact .head _
  · rw [List.length_append, List.length_singleton]; omega
  · intro R' hR
    rcases List.mem_append.mp hR with hR | hR
    · exact W.T.szk R' hR
    · rw [List.mem_singleton.mp hR]; exact hk
  · rw [ta_snoc]
    refine List.nodup_append.mpr ⟨W.nd, ?_, fun a ha b hb e => new b hb (e ▸ loA a ha)⟩
    simp only [List.nodup_cons, List.mem_cons, List.not_mem_nil, or_false, not_or, List.nodup_nil, and_true, not_false_eq_true]
    refine ⟨⟨?_, ?_, ?_, ?_⟩, ⟨?_, ?_, ?_⟩, ⟨?_, ?_⟩, ?_⟩ <;> (refine neN ?_; omega)
  · intro O hO p hp
    obtain ⟨a, b⟩ := hO p hp
    refine ⟨up p a fun e => b (by rw [e]; simp [ta]), fun hm => ?_⟩
    rw [ta_snoc] at hm
    rcases List.mem_append.mp hm with hm | hm
    · exact b hm
    · exact new _ hm (lo p a)
section
open PySem.Calls PyProof.V PySem.Spec
theorem refocus {h₀ h : Heap} {L l : Addr} {o : Obj} {all : List (Addr × Obj)} (N : News h₀ L h all) (hm : (l, o) ∈ all) : News h₀ L h ((l, o) :: strip l all) := news_sub N fun p hp => by
  rcases List.mem_cons.mp hp with rfl | hp
  · exact hm
  · exact strip_sub p hp
variable (w : World) {dp un : Nat} {gd : Option (List Code)} {env : Env} {outer : List Env} {h₀ : Heap} {L : Addr} {m : Str → Option Value} {s : Shared} {Q E : Value → Shared → Prop} {all O : List (Addr × Obj)}
    {t td rl : Addr} {rn : Nat} {tk : Tok} {rows : List NR}
theorem words31 : True := by
  k_with "W44" => (k_here; (try dsimp only); k_dflt (refine' noderow_t _ ?C ?hd ?hu ?_; (case C => k_extra "CXC"); (case hd => ktr_room); (case hu => ktr_units); k_whole; (intro x' d' c' a' ns' k1 k2 k3 k4 k5 k6 k7 k8 k9 h' tk' l1 l2 l3 l4 l5 F' N'); (try k_lt l1); (try dsimp only)))
  trivial
local macro_rules | `(tactic| walk_at "call ref") => `(tactic| k_extra "W44")

theorem newrow_t {kd nm ur lo va : Str} {pv : Value} {t1 t2 t3 t4 t5 : Tok} (C : Cx w outer h₀ L env m s.heap all) (W : TW w.params all t td rl rn tk rows) (hO : Keep t td rl rows O all) (hz : rows.length < 1000)
    (hd : dp + 4 < recursionLimit) (hu : un + 32 < cLine)
    (ret : ∀ all' R rn' tn h' tk', NR.New R kd nm ur lo va pv → TW w.params all' t td rl rn' tk (rows ++ [R]) → Keep t td rl (rows ++ [R]) O all' → Fr h₀ L h' m → News h₀ L h' all' → Q (.int rows.length tn) { s with heap := h', toks := tk' }) :
    wpAny (model prg w) (aT dp un gd env outer) (call (.ref 281) [.ref t, .str kd t1, .str nm t2, .str ur t3, .str lo t4, .str va t5, pv]) Q E s := by
  refine C.elim ?_; intro A₀ base mean mg mb B T F N X hf hk
  replace N := refocus N W.T.h3
  have nd := W.rlne
  have m1 := strip_of' (l := rl) W.T.h1 nd.1
  have m2 := strip_of' (l := rl) W.T.h2 nd.2.1
  have hoff : ∀ p ∈ strip rl all, p.1 ≠ rl := strip_off
  have hpure := fun rn' R => W.snoc (rn' := rn') hz R
  generalize strip rl all = Z at N m1 m2 hoff hpure
  have hsz := W.T.sz
  k_extra "FILL"
  k_extra "ENTER"
  replace F' := Fr.of_eq (mk_binds [(st "parent", pv), (st "value", .str va t5), (st "local", .str lo t4), (st "uri", .str ur t3), (st "name", .str nm t2), (st "kind", .str kd t1), (Str.ofString "self", .ref t)]) F'
  k_steps
  rename News h₀ L _ _ => N9
  rename Fr h₀ L _ _ => F9
  have hq := hpure (rn + 1) ⟨x', d', c', a', ns', kd, nm, ur, lo, va, pv, t1, t2, t3, t4, t5, k1, k2, k3, k4, k5, k6, k7, k8, k9, [], [], 0, 0⟩ ⟨Nat.zero_le _, Nat.zero_le _⟩ (by assumption) (by first | assumption | exact allLt_out (by assumption)) l2 l3 l4 l5 rfl
  have e : ((rows.map (fun R => Value.ref R.x) ++ [Value.ref x']).length : Int) - 1 = rows.length := by
    rw [List.length_append, List.length_map, List.length_singleton]; omega
  rw [e]
  exact ret _ _ _ _ _ _ ⟨rfl, rfl, rfl, rfl, rfl, rfl, rfl, rfl⟩ hq.1 (hq.2 O hO) F9 N9
end

-- part p20_upd.lean
def adr (R : NR) : List Addr := [R.x, R.dx, R.c, R.a, R.ns]
theorem map_set_same {α β : Type} {f : α → β} {l : List α} {i : Nat} {a b : α} (h : l[i]? = some a) (e : f b = f a) : (l.set i b).map f = l.map f := by
  apply List.ext_getElem?
  intro j
  rw [List.getElem?_map, List.getElem?_map, List.getElem?_set]
  by_cases hj : i = j
  · subst hj
    have hlt : i < l.length := by
      rcases Nat.lt_or_ge i l.length with q | q
      · exact q
      · rw [List.getElem?_eq_none q] at h; cases h
    rw [if_pos rfl, if_pos hlt, h, Option.map_some, Option.map_some, e]
  · rw [if_neg hj]
theorem ta_set {t td rl : Addr} {rows : List NR} {i : Nat} {R R' : NR} (h : rows[i]? = some R) (e : adr R' = adr R) : ta t td rl (rows.set i R') = ta t td rl rows := by
  have : (rows.set i R').flatMap adr = rows.flatMap adr := by rw [List.flatMap_def, List.flatMap_def, map_set_same h e]
  unfold ta
  rw [show (rows.set i R').flatMap (fun R => [R.x, R.dx, R.c, R.a, R.ns]) = (rows.set i R').flatMap adr from rfl, this]; rfl
theorem flat_apart {α β : Type} {f : α → List β} : ∀ {l : List α} {i j : Nat} {a b : α} {x : β}, (l.flatMap f).Nodup → i ≠ j → l[i]? = some a → l[j]? = some b → x ∈ f a → x ∉ f b
  | [], i, j, a, b, x, _, _, h, _, _ => by simp at h
  | c :: l, 0, 0, a, b, x, _, hij, _, _, _ => absurd rfl hij
  | c :: l, 0, j + 1, a, b, x, hn, _, h, h', hx => fun hb => by
    have e : c = a := by simpa using h
    subst e
    rw [List.flatMap_cons, List.nodup_append] at hn
    exact hn.2.2 x hx x (List.mem_flatMap.mpr ⟨b, List.mem_of_getElem? (by simpa using h'), hb⟩) rfl
  | c :: l, i + 1, 0, a, b, x, hn, _, h, h', hx => fun hb => by
    have e : c = b := by simpa using h'
    subst e
    rw [List.flatMap_cons, List.nodup_append] at hn
    exact hn.2.2 x hb x (List.mem_flatMap.mpr ⟨a, List.mem_of_getElem? (by simpa using h), hx⟩) rfl
  | c :: l, i + 1, j + 1, a, b, x, hn, hij, h, h', hx => by
    rw [List.flatMap_cons, List.nodup_append] at hn
    exact flat_apart (l := l) (i := i) (j := j) hn.2.1 (fun e => hij (by rw [e])) (by simpa using h) (by simpa using h') hx
theorem TW.apart {P : Params} {all : List (Addr × Obj)} {t td rl : Addr} {rn : Nat} {tk : Tok} {rows : List NR} (W : TW P all t td rl rn tk rows) {i : Nat} {R : NR} (hi : rows[i]? = some R) {ad : Addr} (had : ad ∈ adr R) :
    t ≠ ad ∧ td ≠ ad ∧ rl ≠ ad ∧ ∀ {j S}, i ≠ j → rows[j]? = some S → ad ∉ adr S := by
  have nd := W.nd
  unfold ta at nd
  have hm : ad ∈ rows.flatMap fun R => [R.x, R.dx, R.c, R.a, R.ns] := List.mem_flatMap.mpr ⟨R, List.mem_of_getElem? hi, had⟩
  simp only [List.nodup_cons, List.mem_cons, not_or] at nd
  refine ⟨fun e => nd.1.2.2 (e ▸ hm), fun e => nd.2.1.2 (e ▸ hm), fun e => nd.2.2.1 (e ▸ hm), fun {j S} hij hj => ?_⟩
  exact flat_apart (f := adr) nd.2.2.2 hij hi hj had
theorem led_adr {P : Params} {R : NR} : ∀ p ∈ R.led P, p.1 ∈ adr R := fun p hp => by
  unfold NR.led at hp
  unfold adr
  simp only [List.mem_cons, List.not_mem_nil, or_false] at hp ⊢
  rcases hp with rfl | rfl | rfl | rfl | rfl <;> simp
theorem TW.upd {P : Params} {all : List (Addr × Obj)} {t td rl : Addr} {rn : Nat} {tk : Tok} {rows : List NR} (W : TW P all t td rl rn tk rows) {i : Nat} {R : NR} (hi : rows[i]? = some R) {ad : Addr} {o' : Obj} (had : ad ∈ adr R) (R' : NR) (he : adr R' = adr R)
    (hl : ∀ p ∈ R'.led P, p = (ad, o') ∨ (p ∈ R.led P ∧ p.1 ≠ ad)) (hk : R'.kv.length ≤ 1000 ∧ R'.av.length ≤ 1000) :
    TW P ((ad, o') :: strip ad all) t td rl rn tk (rows.set i R') ∧ ∀ O, Keep t td rl rows O all → Keep t td rl (rows.set i R') O ((ad, o') :: strip ad all) := by
  refine E0_4 (W.apart hi had) ?_; intro a1 a2 a3 a4
  have up : ∀ p ∈ all, p.1 ≠ ad → p ∈ (ad, o') :: strip ad all := fun p hp e => .tail _ (strip_of' hp e)
  have mem : ∀ S ∈ rows.set i R', S = R' ∨ ∃ j, i ≠ j ∧ rows[j]? = some S := fun S hS => by
    obtain ⟨j, hj⟩ := List.getElem?_of_mem hS
    rw [List.getElem?_set] at hj
    by_cases e : i = j
    · rw [if_pos e] at hj
      by_cases q : i < rows.length
      · rw [if_pos q] at hj; exact .inl (Option.some.inj hj).symm
      · rw [if_neg q] at hj; cases hj
    · rw [if_neg e] at hj; exact .inr ⟨j, e, hj⟩
  refine ⟨⟨⟨up _ W.T.h1 a1, up _ W.T.h2 a2, ?_, ?_, ?_, ?_⟩, ?_⟩, ?_⟩
  · rw [map_set_same hi (f := fun R => Value.ref R.x) (by unfold adr at he; simp at he; rw [he.1])]
    exact up _ W.T.h3 a3
  · intro S hS p hp
    rcases mem S hS with rfl | ⟨j, hij, hj⟩
    · rcases hl p hp with rfl | ⟨q, e⟩
      · exact .head _
      · exact up p (W.T.h4 R (List.mem_of_getElem? hi) p q) e
    · exact up p (W.T.h4 S (List.mem_of_getElem? hj) p hp) fun e => a4 hij hj (e ▸ led_adr p hp)
  · rw [List.length_set]; exact W.T.sz
  · intro S hS
    rcases mem S hS with rfl | ⟨j, hij, hj⟩
    · exact hk
    · exact W.T.szk S (List.mem_of_getElem? hj)
  · rw [ta_set hi he]; exact W.nd
  · intro O hO p hp
    obtain ⟨a, b⟩ := hO p hp
    rw [ta_set hi he]
    refine ⟨up p a fun e => b ?_, b⟩
    rw [e]
    unfold ta
    exact .tail _ (.tail _ (.tail _ (List.mem_flatMap.mpr ⟨R, List.mem_of_getElem? hi, had⟩)))
theorem TW.adr_nd {P : Params} {all : List (Addr × Obj)} {t td rl : Addr} {rn : Nat} {tk : Tok} {rows : List NR} (W : TW P all t td rl rn tk rows) {i : Nat} {R : NR} (hi : rows[i]? = some R) : (R.x ≠ R.dx ∧ R.x ≠ R.a) ∧ R.x ≠ R.c ∧ R.dx ≠ R.c ∧ R.dx ≠ R.a ∧ R.c ≠ R.a ∧ R.c ≠ R.ns ∧ R.a ≠ R.ns := by
  have nd : (adr R).Nodup := by
    have := W.nd
    unfold ta at this
    simp only [List.nodup_cons] at this
    have h := this.2.2.2
    rw [show (rows.flatMap fun R => [R.x, R.dx, R.c, R.a, R.ns]) = rows.flatMap adr from rfl] at h
    refine E2_1 (List.append_of_mem (List.mem_of_getElem? hi)) ?_; intro l1 l2 e
    rw [e, List.flatMap_append, List.flatMap_cons, List.nodup_append, List.nodup_append] at h
    exact h.2.1.1
  unfold adr at nd
  simp only [List.nodup_cons, List.mem_cons, List.not_mem_nil, or_false, not_or] at nd
  exact ⟨⟨nd.1.1, nd.1.2.2.1⟩, nd.1.2.1, nd.2.1.1, nd.2.1.2.1, nd.2.2.1.1, nd.2.2.1.2, nd.2.2.2.1⟩
theorem TW.kid {P : Params} {all : List (Addr × Obj)} {t td rl : Addr} {rn : Nat} {tk : Tok} {rows : List NR} (W : TW P all t td rl rn tk rows) {i : Nat} {R : NR} (hi : rows[i]? = some R) (kv : List Value) (kn : Nat) (hk : kv.length ≤ 1000) :
    TW P ((R.c, lst kv kn) :: strip R.c all) t td rl rn tk (rows.set i { R with kv := kv, kn := kn }) ∧ ∀ O, Keep t td rl rows O all → Keep t td rl (rows.set i { R with kv := kv, kn := kn }) O ((R.c, lst kv kn) :: strip R.c all) := by
  refine E0_7 (W.adr_nd hi) ?_; intro hp6 n1 n2 n3 n4 n6 n7; obtain ⟨n0, n5⟩ := hp6
  refine W.upd hi (by simp [adr]) { R with kv := kv, kn := kn } rfl (fun p hp => ?_) ⟨hk, (W.T.szk R (List.mem_of_getElem? hi)).2⟩
  unfold NR.led at hp ⊢
  simp only [List.mem_cons, List.not_mem_nil, or_false] at hp ⊢
  rcases hp with rfl | rfl | rfl | rfl | rfl
  · exact .inr ⟨.inl rfl, n1⟩
  · exact .inr ⟨.inr (.inl rfl), n2⟩
  · exact .inl rfl
  · exact .inr ⟨.inr (.inr (.inr (.inl rfl))), fun e => n4 e.symm⟩
  · exact .inr ⟨.inr (.inr (.inr (.inr rfl))), fun e => n6 e.symm⟩
theorem TW.att {P : Params} {all : List (Addr × Obj)} {t td rl : Addr} {rn : Nat} {tk : Tok} {rows : List NR} (W : TW P all t td rl rn tk rows) {i : Nat} {R : NR} (hi : rows[i]? = some R) (av : List Value) (an : Nat) (hk : av.length ≤ 1000) :
    TW P ((R.a, lst av an) :: strip R.a all) t td rl rn tk (rows.set i { R with av := av, an := an }) ∧ ∀ O, Keep t td rl rows O all → Keep t td rl (rows.set i { R with av := av, an := an }) O ((R.a, lst av an) :: strip R.a all) := by
  refine E0_7 (W.adr_nd hi) ?_; intro hp7 n1 n2 n3 n4 n6 n7; obtain ⟨n0, n5⟩ := hp7
  refine W.upd hi (by simp [adr]) { R with av := av, an := an } rfl (fun p hp => ?_) ⟨(W.T.szk R (List.mem_of_getElem? hi)).1, hk⟩
  unfold NR.led at hp ⊢
  simp only [List.mem_cons, List.not_mem_nil, or_false] at hp ⊢
  rcases hp with rfl | rfl | rfl | rfl | rfl
  · exact .inr ⟨.inl rfl, n5⟩
  · exact .inr ⟨.inr (.inl rfl), n3⟩
  · exact .inr ⟨.inr (.inr (.inl rfl)), n4⟩
  · exact .inl rfl
  · exact .inr ⟨.inr (.inr (.inr (.inr rfl))), fun e => n7 e.symm⟩

-- part p21_build.lean
section
open PySem.Calls PyProof.V PySem.Spec
local macro_rules | `(tactic| walk_at "call ref") => `(tactic| k_extra "W13")

variable (w : World) {dp un : Nat} {gd : Option (List Code)} {env : Env} {outer : List Env} {h₀ : Heap} {L : Addr} {m : Str → Option Value} {s : Shared} {Q E : Value → Shared → Prop} {all O : List (Addr × Obj)}
    {t td rl : Addr} {rn : Nat} {tk : Tok} {rows : List NR} {k : Int} {ti : Tok} {R : NR}
theorem words33 : True := by
  k_with "W45" => (k_here; (try dsimp only); k_dflt (first | (refine' row_t _ ?C ?hT ?h0 ?hi ?hd ?hu ?_; k_extra "RD.2"; k_whole; (intro h' tk' F' N'); (try dsimp only)) | (with_reducible show wpAny _ _ (call (Value.ref 281) _) _ _ _; refine stopAt ?_)))
  trivial
local macro_rules | `(tactic| walk_at "call ref") => `(tactic| k_extra "W45")

open PySem.SeqAt in
theorem parents_notin {A : Around} {x : Str} {tx : Tok} (X : (KF w.params).In s.heap) (hx : x = st "root" ∨ x = st "element") (hu : A.units + 64 < cLine) (h : Q (.bool false) s) : wpAny (model prg w) A (compareOp .NotIn (.str x tx) (.ref 239)) Q E s := by
  have hg := X 239 _ rfl
  refine notIn_tuple_reads (xs := [.str (st "root"), .str (st "element")]) (d := .str x) (reads_tuple_at hg rfl rfl (ReadsAll.cons (Reads.str _ _) (ReadsAll.cons (Reads.str _ _) ReadsAll.nil))) (Reads.str _ _) (by decide +kernel) ?_ ?_ ?_
  · rcases hx with rfl | rfl <;> decide +kernel
  · simp only [PyData.depthAll, PyData.depth]; omega
  · rcases hx with rfl | rfl <;> simpa [PyData.eqv] using h
theorem newroot_t (C : Cx w outer h₀ L env m s.heap all) (W : TW w.params all t td rl rn tk rows) (hO : Keep t td rl rows O all) (hz : rows.length < 1000)
    (hd : dp + 5 < recursionLimit) (hu : un + 40 < cLine)
    (ret : ∀ all' R rn' tn h' tk', NR.New R (st "root") (st "") (st "") (st "") (st "") .none → TW w.params all' t td rl rn' tk (rows ++ [R]) → Keep t td rl (rows ++ [R]) O all' → Fr h₀ L h' m → News h₀ L h' all' → Q (.int rows.length tn) { s with heap := h', toks := tk' }) :
    wpAny (model prg w) (aT dp un gd env outer) (call (.ref 295) [.ref t]) Q E s := by
  refine C.elim ?_; intro A₀ base mean mg mb B T F N X hf hk
  k_extra "FILL"
  have hT := W.T
  have m1 := hT.h1
  have m2 := hT.h2
  k_extra "ENTER"
  replace F' := Fr.of_eq (mk_binds [(Str.ofString "self", .ref t)]) F'
  k_steps
  refine goOn ?_
  refine' newrow_t w (O := O) ?C W hO hz ?hd ?hu ?_
  case C => k_extra "CXC"
  case hd => ktr_room
  case hu => ktr_units
  intro all' S rn' tn h1 tk1 hS W' hO' F1 N1
  try k_fold
  k_steps
  exact ret _ _ _ _ _ _ hS W' hO' (by k_asm) (by k_asm)
theorem addchild_t {kd nm ur lo va : Str} {t1 t2 t3 t4 t5 : Tok} (C : Cx w outer h₀ L env m s.heap all) (W : TW w.params all t td rl rn tk rows) (hO : Keep t td rl rows O all) (h0 : 0 ≤ k) (hi : rows[k.toNat]? = some R) (hp : R.kind = st "root" ∨ R.kind = st "element") (hz : rows.length < 900) (hkz : R.kv.length < 900)
    (hd : dp + 6 < recursionLimit) (hu : un + 100 < cLine)
    (ret : ∀ all' S rn' tn kn' h' tk', NR.New S kd nm ur lo va (.int k ti) → TW w.params all' t td rl rn' tk ((rows ++ [S]).set k.toNat { R with kv := R.kv ++ [.int rows.length tn], kn := kn' }) → Keep t td rl ((rows ++ [S]).set k.toNat { R with kv := R.kv ++ [.int rows.length tn], kn := kn' }) O all' → Fr h₀ L h' m → News h₀ L h' all' → Q (.int rows.length tn) { s with heap := h', toks := tk' }) :
    wpAny (model prg w) (aT dp un gd env outer) (call (.ref 302) [.ref t, .int k ti, .str kd t1, .str nm t2, .str ur t3, .str lo t4, .str va t5]) Q E s := by
  refine C.elim ?_; intro A₀ base mean mg mb B T F N X hf hk
  k_extra "FILL"
  have hT := W.T
  have m1 := hT.h1
  have m2 := hT.h2
  refine E0_7 (hT.row hi) ?_; intro r1 r2 r3 r4 hlen z1 z2
  k_extra "ENTER"
  replace F' := Fr.of_eq (mk_binds [(st "value", .str va t5), (st "local", .str lo t4), (st "uri", .str ur t3), (st "name", .str nm t2), (st "kind", .str kd t1), (st "parent", .int k ti), (Str.ofString "self", .ref t)]) F'
  k_steps
  refine parents_notin w (Frag.In.keeps X' (Fr.keep (by k_asm))) hp ?hun ?_
  case hun => ktr_units
  k_steps
  refine goOn ?_
  refine' newrow_t w (O := O) ?C W hO (by omega) ?hd ?hu ?_
  case C => k_extra "CXC"
  case hd => ktr_room
  case hu => ktr_units
  intro all' S rn' tn h1 tk1 hS W' hO' F1 N1
  try k_fold
  have hlt : k.toNat < rows.length := hlen
  have hi' : (rows ++ [S])[k.toNat]? = some R := by rw [List.getElem?_append_left hlt]; exact hi
  have hT := W'.T
  refine E0_7 (hT.row hi') ?_; intro r1 r2 r3 r4 hlen z1 z2
  refine E0_4 (W'.apart hi' (ad := R.c) (by simp [adr])) ?_; intro e1 e2 e3 hz8; clear hz8
  have nR := TW.adr_nd W' hi'
  replace N1 := refocus N1 r3
  have m1 := strip_of' (l := R.c) hT.h1 e1
  have m2 := strip_of' (l := R.c) hT.h2 e2
  have m3 := strip_of' (l := R.c) hT.h3 e3
  have r1 := strip_of' (l := R.c) r1 nR.2.1
  have r2 := strip_of' (l := R.c) r2 nR.2.2.1
  have hpure := fun kn' tn' => W'.kid hi' (R.kv ++ [.int rows.length tn']) kn' (by rw [List.length_append, List.length_singleton]; omega)
  have hoff : ∀ p ∈ strip R.c all', p.1 ≠ R.c := strip_off
  generalize strip R.c all' = Z at N1 m1 m2 m3 r1 r2 hpure hoff
  k_steps
  exact ret _ S rn' tn (R.kn + 1) _ _ hS (hpure (R.kn + 1) tn).1 ((hpure (R.kn + 1) tn).2 O hO') (by k_asm) (by k_asm)
end

-- part p22_elem.lean
section
open PySem.Calls PyProof.V PySem.Spec
local macro_rules | `(tactic| walk_at "call ref") => `(tactic| k_extra "W13")

variable (w : World) {dp un : Nat} {gd : Option (List Code)} {env : Env} {outer : List Env} {h₀ : Heap} {L : Addr} {m : Str → Option Value} {s : Shared} {Q E : Value → Shared → Prop} {all O : List (Addr × Obj)}
    {t td rl : Addr} {rn : Nat} {tk : Tok} {rows : List NR} {k : Int} {ti : Tok} {R : NR}
theorem words35 : True := by
  k_with "W46" => (k_here; (try dsimp only); k_dflt (first | (refine' row_t _ ?C ?hT ?h0 ?hi ?hd ?hu ?_; k_extra "RD.2"; k_whole; (intro h' tk' F' N'); (try dsimp only)) | (refine' addchild_t _ (O := O) ?C W hO ?h0 ?hi ?hp ?hz ?hkz ?hd ?hu ?_; (case C => k_extra "CXC"); (case h0 => k_asm); (case hi => k_asm); (case hp => k_asm); (case hz => k_asm); (case hkz => k_asm); (case hd => ktr_room); (case hu => ktr_units); k_whole; (intro all' S rn' tn kn' h' tk' hS W' hO' F' N'); (try dsimp only)) | (with_reducible show wpAny _ _ (call (Value.ref 281) _) _ _ _; refine stopAt ?_)))
  trivial
local macro_rules | `(tactic| walk_at "call ref") => `(tactic| k_extra "W46")

local macro_rules | `(tactic| walk_at "PAD") => `(tactic| fail)
theorem addelement_t {nm ur lo : Str} {t2 t3 t4 : Tok} (C : Cx w outer h₀ L env m s.heap all) (W : TW w.params all t td rl rn tk rows) (hO : Keep t td rl rows O all) (h0 : 0 ≤ k) (hi : rows[k.toNat]? = some R) (hp : R.kind = st "root" ∨ R.kind = st "element") (hz : rows.length < 900) (hkz : R.kv.length < 900)
    (hd : dp + 7 < recursionLimit) (hu : un + 110 < cLine)
    (ret : ∀ all' S rn' tn kn' h' tk', NR.New S (st "element") nm ur lo (st "") (.int k ti) → TW w.params all' t td rl rn' tk ((rows ++ [S]).set k.toNat { R with kv := R.kv ++ [.int rows.length tn], kn := kn' }) → Keep t td rl ((rows ++ [S]).set k.toNat { R with kv := R.kv ++ [.int rows.length tn], kn := kn' }) O all' → Fr h₀ L h' m → News h₀ L h' all' → Q (.int rows.length tn) { s with heap := h', toks := tk' }) :
    wpAny (model prg w) (aT dp un gd env outer) (call (.ref 309) [.ref t, .int k ti, .str nm t2, .str ur t3, .str lo t4]) Q E s := by
  refine C.elim ?_; intro A₀ base mean mg mb B T F N X hf hk
  k_extra "FILL"
  have m1 := W.T.h1
  have m2 := W.T.h2
  k_extra "ENTER"
  replace F' := Fr.of_eq (mk_binds [(st "local", .str lo t4), (st "uri", .str ur t3), (st "name", .str nm t2), (st "parent", .int k ti), (Str.ofString "self", .ref t)]) F'
  k_steps
  exact ret _ _ _ _ _ _ _ hS W' hO' (by k_asm) (by k_asm)
theorem addtext_t {va : Str} {t2 : Tok} (C : Cx w outer h₀ L env m s.heap all) (W : TW w.params all t td rl rn tk rows) (hO : Keep t td rl rows O all) (h0 : 0 ≤ k) (hi : rows[k.toNat]? = some R) (hp : R.kind = st "root" ∨ R.kind = st "element") (hz : rows.length < 900) (hkz : R.kv.length < 900)
    (hd : dp + 7 < recursionLimit) (hu : un + 110 < cLine)
    (ret : ∀ all' S rn' tn kn' h' tk', NR.New S (st "text") (st "") (st "") (st "") va (.int k ti) → TW w.params all' t td rl rn' tk ((rows ++ [S]).set k.toNat { R with kv := R.kv ++ [.int rows.length tn], kn := kn' }) → Keep t td rl ((rows ++ [S]).set k.toNat { R with kv := R.kv ++ [.int rows.length tn], kn := kn' }) O all' → Fr h₀ L h' m → News h₀ L h' all' → Q (.int rows.length tn) { s with heap := h', toks := tk' }) :
    wpAny (model prg w) (aT dp un gd env outer) (call (.ref 316) [.ref t, .int k ti, .str va t2]) Q E s := by
  refine C.elim ?_; intro A₀ base mean mg mb B T F N X hf hk
  k_extra "FILL"
  have m1 := W.T.h1
  have m2 := W.T.h2
  k_extra "ENTER"
  replace F' := Fr.of_eq (mk_binds [(st "value", .str va t2), (st "parent", .int k ti), (Str.ofString "self", .ref t)]) F'
  k_steps
  exact ret _ _ _ _ _ _ _ hS W' hO' (by k_asm) (by k_asm)
theorem elemrow_t (C : Cx w outer h₀ L env m s.heap all) (hT : TreeIn w.params all t td rl rn tk rows) (h0 : 0 ≤ k) (hi : rows[k.toNat]? = some R) (hp : R.kind = st "element")
    (hd : dp + 2 < recursionLimit) (hu : un + 16 < cLine)
    (ret : ∀ h' tk', Fr h₀ L h' m → News h₀ L h' all → Q (.ref R.x) { s with heap := h', toks := tk' }) :
    wpAny (model prg w) (aT dp un gd env outer) (call (.ref 337) [.ref t, .int k ti]) Q E s := by
  refine C.elim ?_; intro A₀ base mean mg mb B T F N X hf hk
  k_extra "FILL"
  have m1 := hT.h1
  have m2 := hT.h2
  refine E0_7 (hT.row hi) ?_; intro r1 r2 r3 r4 hlen z1 z2
  k_extra "ENTER"
  replace F' := Fr.of_eq (mk_binds [(st "element", .int k ti), (Str.ofString "self", .ref t)]) F'
  k_steps
  · rename (_ = true) => hb
    exact absurd hp (by simpa using hb)
  · exact ret _ _ (by k_asm) (by k_asm)
end

-- part p23_setattr.lean
section
open PySem.Calls PyProof.V PySem.Spec
local macro_rules | `(tactic| walk_at "call ref") => `(tactic| k_extra "W13")

variable (w : World) {dp un : Nat} {gd : Option (List Code)} {env : Env} {outer : List Env} {h₀ : Heap} {L : Addr} {m : Str → Option Value} {s : Shared} {Q E : Value → Shared → Prop} {all O : List (Addr × Obj)}
    {t td rl : Addr} {rn : Nat} {tk : Tok} {rows : List NR} {k : Int} {ti : Tok} {R : NR}
theorem words37 : True := by
  k_with "W47" => (k_here; (try dsimp only); k_dflt (first | (refine' elemrow_t _ ?C ?hT ?h0 ?hi ?hp ?hd ?hu ?_; (case C => k_extra "CXC"); (case hT => assumption); (case h0 => k_asm); (case hi => k_asm); (case hp => k_asm); (case hd => ktr_room); (case hu => ktr_units); k_whole; (intro h' tk' F' N'); (try dsimp only)) | (with_reducible show wpAny _ _ (call (Value.ref 281) _) _ _ _; refine stopAt ?_)))
  trivial
local macro_rules | `(tactic| walk_at "call ref") => `(tactic| k_extra "W47")

def satJ (t x : Addr) (k : Int) (ti : Tok) (nm ur lo va : Value) (all : List (Addr × Obj)) : Jt := fun _ m n => ∃ ok on, m = mk [(st "known", ok), (st "node", on), (st "row", some (.ref x)), (st "value", some va), (st "local", some lo), (st "uri", some ur), (st "name", some nm), (st "element", some (.int k ti)), (st "self", some (.ref t))] ∧ n = all
theorem setattr_t {nm ur lo va : Str} {t2 t3 t4 t5 : Tok} (C : Cx w outer h₀ L env m s.heap all) (W : TW w.params all t td rl rn tk rows) (hO : Keep t td rl rows O all) (h0 : 0 ≤ k) (hi : rows[k.toNat]? = some R) (hp : R.kind = st "element") (hz : rows.length < 900) (hkz : R.av.length < 900)
    (hav : ∀ v ∈ R.av, ∃ n tn S, v = .int n tn ∧ 0 ≤ n ∧ rows[n.toNat]? = some S ∧ S.loc ≠ lo)
    (hd : dp + 6 < recursionLimit) (hu : un + 100 < cLine)
    (ret : ∀ all' S rn' tn an' h' tk', NR.New S (st "attribute") nm ur lo va (.int k ti) → TW w.params all' t td rl rn' tk ((rows ++ [S]).set k.toNat { R with av := R.av ++ [.int rows.length tn], an := an' }) → Keep t td rl ((rows ++ [S]).set k.toNat { R with av := R.av ++ [.int rows.length tn], an := an' }) O all' → Fr h₀ L h' m → News h₀ L h' all' → Q (.int rows.length tn) { s with heap := h', toks := tk' }) :
    wpAny (model prg w) (aT dp un gd env outer) (call (.ref 344) [.ref t, .int k ti, .str nm t2, .str ur t3, .str lo t4, .str va t5]) Q E s := by
  refine C.elim ?_; intro A₀ base mean mg mb B T F N X hf hk
  k_extra "FILL"
  have hT := W.T
  have m1 := hT.h1
  have m2 := hT.h2
  have m3 := hT.h3
  refine E0_7 (hT.row hi) ?_; intro r1 r2 r3 r4 hlen z1 z2
  have hsz := hT.sz
  k_extra "ENTER"
  replace F' := Fr.of_eq (mk_binds [(st "value", .str va t5), (st "local", .str lo t4), (st "uri", .str ur t3), (st "name", .str nm t2), (st "element", .int k ti), (Str.ofString "self", .ref t)]) F'
  k_steps
  refine goOn ?_
  rename News _ _ _ _ => N1
  rename Fr g' _ _ _ => F1
  refine' for_list_J (satJ t R.x k ti (.str nm t2) (.str ur t3) (.str lo t4) (.str va t5) all) rfl (Fr.of_eq ?mp F1) N1 r4 ⟨none, none, rfl, rfl⟩ (goOn ?turn) (goOn ?done)
  case mp => exact mk_of2 (by k_extra "OFFM") rfl
  case turn =>
    intro I i v m1 n1 it h3 tk3 hv hI hoff hm hJ hc F2 N2
    try k_fold
    refine E2_2 (hJ) ?_; (try clear hJ); intro ok on hq9 hq0; obtain rfl := hq9; obtain rfl := hq0
    refine E3_4 (hav v (List.mem_of_getElem? hv)) ?_; intro n9 tn9 S9 hq1 n0 hS9 hlo; obtain rfl := hq1
    refine E0_7 (hT.row hS9) ?_; intro s1 s2 s3 s4 slen sz1 sz2
    k_steps
    · rename (S9.loc == lo) = true => hb
      exact absurd (by simpa using hb) hlo
    all_goals
      rename Fr g' _ _ _ => F3
      rename News _ _ _ _ => N3
      refine JPost.fin n1 F3 N3 (fun p hp => hp) hoff ⟨hm, some (.ref S9.x), some (.int n9 tn9), ?_, rfl⟩
      k_extra "MAP"
  case done =>
    intro m1 n1 h3 tk3 hm hJ F2 N2
    try k_fold
    refine E2_2 (hJ) ?_; (try clear hJ); intro ok on hq2 hq3; obtain rfl := hq2; obtain rfl := hq3
    k_steps
    refine goOn ?_
    refine' newrow_t w (O := O) ?C W hO (by omega) ?hd ?hu ?_
    case C => k_extra "CXC"
    case hd => ktr_room
    case hu => ktr_units
    intro all' S rn' tn h1 tk1 hS W' hO' F1 N1
    try k_fold
    have hlt : k.toNat < rows.length := hlen
    have hi' : (rows ++ [S])[k.toNat]? = some R := by rw [List.getElem?_append_left hlt]; exact hi
    have hT := W'.T
    refine E0_7 (hT.row hi') ?_; intro r1 r2 r3 r4 hlen z1 z2
    have nR := TW.adr_nd W' hi'
    replace N1 := refocus N1 r4
    have r1 := strip_of' (l := R.a) r1 nR.1.2
    have r2 := strip_of' (l := R.a) r2 nR.2.2.2.1
    have hpure := fun an' tn' => W'.att hi' (R.av ++ [.int rows.length tn']) an' (by rw [List.length_append, List.length_singleton]; omega)
    have hoff : ∀ p ∈ strip R.a all', p.1 ≠ R.a := strip_off
    generalize strip R.a all' = Z at N1 r1 r2 hpure hoff
    k_steps
    exact ret _ S rn' tn (R.an + 1) _ _ hS (hpure (R.an + 1) tn).1 ((hpure (R.an + 1) tn).2 O hO') (by k_asm) (by k_asm)
end

-- part p24_draw0.lean
def Same (R R' : NR) : Prop := R'.kind = R.kind ∧ R'.name = R.name ∧ R'.loc = R.loc ∧ R'.value = R.value
theorem Same.rfl' (R : NR) : Same R R := ⟨rfl, rfl, rfl, rfl⟩
theorem Same.trans {a b c : NR} (h : Same a b) (h' : Same b c) : Same a c := ⟨h'.1.trans h.1, h'.2.1.trans h.2.1, h'.2.2.1.trans h.2.2.1, h'.2.2.2.trans h.2.2.2⟩
def Ext (rows rows' : List NR) : Prop := ∀ (y : Nat) (S : NR), rows[y]? = some S → ∃ S', rows'[y]? = some S' ∧ Same S S'
theorem Ext.refl (rows : List NR) : Ext rows rows := fun _ S h => ⟨S, h, Same.rfl' S⟩
theorem Ext.trans {a b c : List NR} (h : Ext a b) (h' : Ext b c) : Ext a c := fun y S e => by
  refine E1_2 (h y S e) ?_; intro S1 e1 s1
  refine E1_2 (h' y S1 e1) ?_; intro S2 e2 s2
  exact ⟨S2, e2, s1.trans s2⟩
section
variable {rows : List NR} {S R R' : NR} {k : Nat}
theorem op_at (hk : rows[k]? = some R) : ((rows ++ [S]).set k R')[k]? = some R' := by
  have hlt : k < rows.length := by
    rcases Nat.lt_or_ge k rows.length with q | q
    · exact q
    · rw [List.getElem?_eq_none q] at hk; cases hk
  rw [List.getElem?_set, if_pos rfl, if_pos (by rw [List.length_append]; omega)]
theorem op_ne {j : Nat} (hj : j ≠ k) (hl : j < rows.length) : ((rows ++ [S]).set k R')[j]? = rows[j]? := by
  rw [List.getElem?_set, if_neg (Ne.symm hj), List.getElem?_append_left hl]
theorem op_new (hk : rows[k]? = some R) : ((rows ++ [S]).set k R')[rows.length]? = some S := by
  have hlt : k < rows.length := by
    rcases Nat.lt_or_ge k rows.length with q | q
    · exact q
    · rw [List.getElem?_eq_none q] at hk; cases hk
  rw [List.getElem?_set, if_neg (Nat.ne_of_lt hlt), List.getElem?_append_right (Nat.le_refl _)]; simp
theorem op_len : ((rows ++ [S]).set k R').length = rows.length + 1 := by simp
theorem lt_of_get {α : Type} {l : List α} {y : Nat} {a : α} (e : l[y]? = some a) : y < l.length := by
  rcases Nat.lt_or_ge y l.length with q | q
  · exact q
  · rw [List.getElem?_eq_none q] at e; cases e
theorem op_ext (hk : rows[k]? = some R) (h : Same R R') : Ext rows ((rows ++ [S]).set k R') := fun y T e => by
  by_cases hy : y = k
  · subst hy
    rw [hk] at e
    cases e
    exact ⟨R', op_at hk, h⟩
  · exact ⟨T, by rw [op_ne hy (lt_of_get e)]; exact e, Same.rfl' T⟩
end
def AttOk (rows : List NR) (v : Value) (a : AI) : Prop := ∃ t R, v = .int a.node t ∧ 0 ≤ a.node ∧ rows[a.node.toNat]? = some R ∧ R.name = a.name ∧ R.loc = a.name ∧ (spl R.value (R.value.length + 1)).1 = a.words ∧ R.value.length ≤ 1000
theorem AttOk.ext {rows rows' : List NR} (x : Ext rows rows') {v : Value} {a : AI} (h : AttOk rows v a) : AttOk rows' v a := by
  refine E2_7 (h) ?_; (try clear h); intro t R e h0 hr h1 h2 h3 h4
  refine E1_5 (x _ _ hr) ?_; intro R' hr' s1 s2 s3 s4
  exact ⟨t, R', e, h0, hr', s2.trans h1, s3.trans h2, by rw [s4]; exact h3, by rw [s4]; exact h4⟩
theorem AttOk.is {rows : List NR} {v : Value} {a : AI} (h : AttOk rows v a) : AttrIs rows v a := by
  refine E2_7 (h) ?_; (try clear h); intro t R e h0 hr h1 h2 h3 h4
  exact ⟨t, R, e, h0, hr, h1, h3, h4⟩
/-- the element under construction: its row, what has changed since -/
structure Cur (rows0 rows : List NR) (nd : Nat) (nm : Str) (as : List AI) (tx : List Int) : Prop where
  ext : Ext rows0 rows
  frame : ∀ y, y < rows0.length → y ≠ nd → rows[y]? = rows0[y]?
  at_ : ∃ R, rows[nd]? = some R ∧ R.kind = st "element" ∧ R.name = nm ∧ IntsAre R.kv tx ∧ All2 (AttOk rows) R.av as
  txt : ∀ x ∈ tx, 0 ≤ x ∧ ∃ S, rows[x.toNat]? = some S ∧ S.kind ≠ st "element"
  len : rows0.length ≤ rows.length
theorem Cur.att {rows0 rows : List NR} {nd : Nat} {nm : Str} {as : List AI} {tx : List Int} (c : Cur rows0 rows nd nm as tx) (hnd : nd < rows0.length) {R S : NR} (hR : rows[nd]? = some R) {a : AI} {tn : Tok} {an : Nat} (hn : a.node = rows.length)
    (h1 : S.name = a.name) (h2 : S.loc = a.name) (h3 : (spl S.value (S.value.length + 1)).1 = a.words) (h4 : S.value.length ≤ 1000) :
    Cur rows0 ((rows ++ [S]).set nd { R with av := R.av ++ [.int rows.length tn], an := an }) nd nm (as ++ [a]) tx := by
  have x := op_ext (S := S) (R' := { R with av := R.av ++ [.int rows.length tn], an := an }) hR (Same.rfl' R)
  refine E1_5 (c.at_) ?_; intro R1 e1 k1 k2 k3 k4
  rw [hR] at e1
  cases e1
  refine ⟨c.ext.trans x, fun y hy hne => ?_, ⟨_, op_at hR, k1, k2, k3, ?_⟩, fun y hy => ?_, ?_⟩
  · rw [op_ne hne (Nat.lt_of_lt_of_le hy c.len)]; exact c.frame y hy hne
  · refine All2.append (k4.mono fun _ _ h => h.ext x) ⟨⟨tn, S, ?_, ?_, ?_, h1, h2, h3, h4⟩, trivial⟩
    · rw [hn]
    · rw [hn]; omega
    · rw [hn, Int.toNat_natCast]; exact op_new hR
  · refine E0_2 (c.txt y hy) ?_; intro h0 hr4; refine E1_2 (hr4) ?_; (try clear hr4); intro T hT hk
    refine E1_2 (x _ _ hT) ?_; intro T' hT' s
    exact ⟨h0, T', hT', by rw [s.1]; exact hk⟩
  · rw [op_len]; have := c.len; omega
theorem Cur.text {rows0 rows : List NR} {nd : Nat} {nm : Str} {as : List AI} {tx : List Int} (c : Cur rows0 rows nd nm as tx) {R S : NR} (hR : rows[nd]? = some R) {tn : Tok} {kn : Nat} (h1 : S.kind = st "text") :
    Cur rows0 ((rows ++ [S]).set nd { R with kv := R.kv ++ [.int rows.length tn], kn := kn }) nd nm as (tx ++ [(rows.length : Int)]) := by
  have x := op_ext (S := S) (R' := { R with kv := R.kv ++ [.int rows.length tn], kn := kn }) hR (Same.rfl' R)
  refine E1_5 (c.at_) ?_; intro R1 e1 k1 k2 k3 k4
  rw [hR] at e1
  cases e1
  refine ⟨c.ext.trans x, fun y hy hne => ?_, ⟨_, op_at hR, k1, k2, ints_append k3 (.cons _ _ .nil), k4.mono fun _ _ h => h.ext x⟩, fun y hy => ?_, ?_⟩
  · rw [op_ne hne (Nat.lt_of_lt_of_le hy c.len)]; exact c.frame y hy hne
  · rcases List.mem_append.mp hy with hy | hy
    · refine E0_2 (c.txt y hy) ?_; intro h0 hr5; refine E1_2 (hr5) ?_; (try clear hr5); intro T hT hk
      refine E1_2 (x _ _ hT) ?_; intro T' hT' s
      exact ⟨h0, T', hT', by rw [s.1]; exact hk⟩
    · rw [List.mem_singleton.mp hy]
      exact ⟨by omega, S, by rw [Int.toNat_natCast]; exact op_new hR, by rw [h1]; decide⟩
  · rw [op_len]; have := c.len; omega

-- part p25_inner.lean
section
open PySem.Calls PyProof.V PySem.Spec
local macro_rules | `(tactic| walk_at "call ref") => `(tactic| k_extra "W13")

def WordsIs (O : List (Addr × Obj)) (v : Value) (ws : List Str) : Prop := ∃ D ys n, v = .ref D ∧ (D, lst ys n) ∈ O ∧ StrsAre ys ws
theorem WordsIs.mono {O O' : List (Addr × Obj)} (s : ∀ p ∈ O, p ∈ O') {v : Value} {ws : List Str} (h : WordsIs O v ws) : WordsIs O' v ws := by
  refine E3_3 (h) ?_; (try clear h); intro D ys n e m r
  exact ⟨D, ys, n, e, s _ m, r⟩
abbrev drM (sv tv rv uv : Value) (oat oab onm ond orw otd ovl owd : Option Value) : Str → Option Value := mk [(st "words", owd), (st "value", ovl), (st "told", otd), (st "row", orw), (st "node", ond), (st "name", onm), (st "above", oab), (st "at", oat), (st "root", some uv), (st "rows", some rv), (st "tree", some tv), (st "source", some sv)]
def toldL : List Str := [st "s", st "n", st "r"]
structure InS (w : World) (l d2 d3 : Addr) (nd : Nat) (nm : Str) (rows0 : List NR) (tx : List Int) (t td rl : Addr) (tk : Tok) (O : List (Addr × Obj)) (j : Nat) (x y : Int) (o2 o3 : Obj) (kv2 kv3 : List (Str × Value)) (Z Nw : List (Addr × Obj)) (rows : List NR) (rn : Nat) (as : List AI) : Prop where
  xy : 0 ≤ x ∧ 0 ≤ y ∧ y < 2147483647
  ol : ∀ p ∈ Z, p.1 ≠ l
  o2' : ∀ p ∈ Z, p.1 ≠ d2
  o3' : ∀ p ∈ Z, p.1 ≠ d3
  W : TW w.params Z t td rl rn tk rows
  fr : ∀ p ∈ Nw, ∀ q ∈ O, q.1 ≠ p.1
  keep : Keep t td rl rows (Nw ++ O) Z
  i2 : o2.IsDictOf (PySem.strKind prg w) kv2
  a2 : All2 (KV (WordsIs Nw)) kv2 (as.map fun a => (a.name, a.words))
  i3 : o3.IsDictOf (PySem.strKind prg w) kv3
  a3 : All2 (KV IsInt) kv3 (as.map fun a => (a.name, a.node))
  cur : Cur rows0 rows nd nm as tx
  nms : ∀ a ∈ as, a.name ∈ toldL.take j
  ndn : (as.map AI.name).Nodup
  wds : ∀ a ∈ as, a.words.length ≤ 3 ∧ ∀ u ∈ a.words, isW u
  len : rows.length ≤ rows0.length + j
  alen : as.length ≤ j
theorem TW.mono {P : Params} {all all' : List (Addr × Obj)} {t td rl : Addr} {rn : Nat} {tk : Tok} {rows : List NR} (s : ∀ p ∈ all, p ∈ all') (W : TW P all t td rl rn tk rows) : TW P all' t td rl rn tk rows := ⟨W.T.mono s, W.nd⟩
theorem TW.not_in {P : Params} {all : List (Addr × Obj)} {t td rl a : Addr} {rn : Nat} {tk : Tok} {rows : List NR} (W : TW P all t td rl rn tk rows) (off : ∀ p ∈ all, p.1 ≠ a) : a ∉ ta t td rl rows := fun h => by
  obtain ⟨o, ho⟩ := W.T.addr a h
  exact off _ ho rfl
theorem Keep.cons {t td rl : Addr} {rows : List NR} {O all : List (Addr × Obj)} {p : Addr × Obj} (h : p ∈ all) (h' : p.1 ∉ ta t td rl rows) (k : Keep t td rl rows O all) : Keep t td rl rows (p :: O) all := fun q hq => by
  rcases List.mem_cons.mp hq with rfl | hq
  · exact ⟨h, h'⟩
  · exact k q hq
theorem Keep.up {t td rl : Addr} {rows : List NR} {O all all' : List (Addr × Obj)} (s : ∀ p ∈ all, p ∈ all') (k : Keep t td rl rows O all) : Keep t td rl rows O all' := fun q hq => ⟨s _ (k q hq).1, (k q hq).2⟩
theorem Keep.strip {t td rl a : Addr} {rows : List NR} {O all : List (Addr × Obj)} (off : ∀ p ∈ O, p.1 ≠ a) (k : Keep t td rl rows O all) : Keep t td rl rows O (strip a all) := fun q hq => ⟨strip_of' (k q hq).1 (off q hq), (k q hq).2⟩
theorem TreeIn.strip {P : Params} {all : List (Addr × Obj)} {t td rl a : Addr} {rn : Nat} {tk : Tok} {rows : List NR} (h : TreeIn P all t td rl rn tk rows) (ha : a ∉ ta t td rl rows) : TreeIn P (Mine.strip a all) t td rl rn tk rows := by
  have ne : ∀ b ∈ ta t td rl rows, b ≠ a := fun b hb e => ha (e ▸ hb)
  refine ⟨strip_of' h.h1 (ne _ (by simp [ta])), strip_of' h.h2 (ne _ (by simp [ta])), strip_of' h.h3 (ne _ (by simp [ta])), fun R hR p hp => strip_of' (h.h4 R hR p hp) (ne _ ?_), h.sz, h.szk⟩
  exact .tail _ (.tail _ (.tail _ (led_fst hR p hp)))
theorem TW.strip {P : Params} {all : List (Addr × Obj)} {t td rl a : Addr} {rn : Nat} {tk : Tok} {rows : List NR} (W : TW P all t td rl rn tk rows) (ha : a ∉ ta t td rl rows) : TW P (Mine.strip a all) t td rl rn tk rows := ⟨W.T.strip ha, W.nd⟩
section
variable {w : World} {l d2 d3 : Addr} {nd : Nat} {nm : Str} {rows0 : List NR} {tx : List Int} {t td rl : Addr} {tk : Tok} {O : List (Addr × Obj)} {j : Nat} {x y : Int} {o2 o3 : Obj} {kv2 kv3 : List (Str × Value)} {Z Nw : List (Addr × Obj)} {rows : List NR} {rn : Nat} {as : List AI}
theorem take_mono {a : Str} (h : a ∈ toldL.take j) : a ∈ toldL.take (j + 1) := by rw [List.take_succ]; exact List.mem_append_left _ h
theorem InS.skip {x' y' : Int} (h : InS w l d2 d3 nd nm rows0 tx t td rl tk O j x y o2 o3 kv2 kv3 Z Nw rows rn as) (xy : 0 ≤ x' ∧ 0 ≤ y' ∧ y' < 2147483647) : InS w l d2 d3 nd nm rows0 tx t td rl tk O (j + 1) x' y' o2 o3 kv2 kv3 Z Nw rows rn as :=
  { h with xy := xy, nms := fun a ha => take_mono (h.nms a ha), len := Nat.le_succ_of_le h.len, alen := Nat.le_succ_of_le h.alen }
theorem lookup_no {β : Type} {f : AI → β} {a : Str} : ∀ {as : List AI}, a ∉ as.map AI.name → (as.map fun b => (b.name, f b)).lookup a = none
  | [], _ => rfl
  | b :: as, h => by
    rw [List.map_cons, List.mem_cons, not_or] at h
    rw [List.map_cons, List.lookup_cons]
    have : (a == b.name) = false := by simpa using h.1
    rw [this]
    exact lookup_no h.2
theorem InS.fresh (h : InS w l d2 d3 nd nm rows0 tx t td rl tk O j x y o2 o3 kv2 kv3 Z Nw rows rn as) {a : Str} (hna : a ∉ toldL.take j) : a ∉ as.map AI.name := fun hm => by
  refine E1_2 (List.mem_map.mp hm) ?_; intro b hb e
  exact hna (e ▸ h.nms b hb)
theorem strip4 {P : Params} {h₀ h : Heap} {L I l d2 d3 : Addr} {it ol o2 o3 : Obj} {all O : List (Addr × Obj)} (W : TW P all t td rl rn tk rows) (K : Keep t td rl rows ((I, it) :: (l, ol) :: (d2, o2) :: (d3, o3) :: O) all)
    (off : ∀ p ∈ O, p.1 ≠ I ∧ p.1 ≠ l ∧ p.1 ≠ d2 ∧ p.1 ≠ d3) (N : News h₀ L h all) :
    ∃ Z, TW P Z t td rl rn tk rows ∧ Keep t td rl rows O Z ∧ News h₀ L h ((I, it) :: (l, ol) :: (d2, o2) :: (d3, o3) :: Z) ∧ (∀ p ∈ Z, p.1 ≠ I) ∧ (∀ p ∈ Z, p.1 ≠ l) ∧ (∀ p ∈ Z, p.1 ≠ d2) ∧ ∀ p ∈ Z, p.1 ≠ d3 := by
  have kI := K _ (.head _)
  have kl := K _ (.tail _ (.head _))
  have k2 := K _ (.tail _ (.tail _ (.head _)))
  have k3 := K _ (.tail _ (.tail _ (.tail _ (.head _))))
  have kO : Keep t td rl rows O all := fun p hp => K p (.tail _ (.tail _ (.tail _ (.tail _ hp))))
  refine ⟨strip I (strip l (strip d2 (strip d3 all))), (((W.strip k3.2).strip k2.2).strip kl.2).strip kI.2, Keep.strip (fun p hp => (off p hp).1) (Keep.strip (fun p hp => (off p hp).2.1) (Keep.strip (fun p hp => (off p hp).2.2.1) (Keep.strip (fun p hp => (off p hp).2.2.2) kO))),
    news_sub N fun p hp => ?_, strip_off, fun p hp => strip_off p (strip_sub p hp), fun p hp => strip_off p (strip_sub p (strip_sub p hp)), fun p hp => strip_off p (strip_sub p (strip_sub p (strip_sub p hp)))⟩
  rcases List.mem_cons.mp hp with rfl | hp
  · exact kI.1
  rcases List.mem_cons.mp hp with rfl | hp
  · exact kl.1
  rcases List.mem_cons.mp hp with rfl | hp
  · exact k2.1
  rcases List.mem_cons.mp hp with rfl | hp
  · exact k3.1
  exact strip_sub p (strip_sub p (strip_sub p (strip_sub p hp)))
theorem InS.attrs (h : InS w l d2 d3 nd nm rows0 tx t td rl tk O j x y o2 o3 kv2 kv3 Z Nw rows rn as) {a : Str} (hna : a ∉ toldL.take j) {R : NR} (hR : rows[nd]? = some R) : R.kind = st "element" ∧ R.av.length ≤ j ∧ ∀ v ∈ R.av, ∃ n tn S, v = .int n tn ∧ 0 ≤ n ∧ rows[n.toNat]? = some S ∧ S.loc ≠ a := by
  refine E1_5 (h.cur.at_) ?_; intro R1 e1 k1 k2 k3 k4
  rw [hR] at e1
  cases e1
  refine ⟨k1, by rw [k4.length]; exact h.alen, fun v hv => ?_⟩
  obtain ⟨i, hi⟩ := List.getElem?_of_mem hv
  refine E1_2 (k4.get hi) ?_; intro b hb hr6; refine E2_7 (hr6) ?_; (try clear hr6); intro t S e h0 hS h1 h2 h3 h4
  exact ⟨b.node, t, S, e, h0, hS, fun q => hna (q ▸ h2 ▸ h.nms b (List.mem_of_getElem? hb))⟩
theorem InS.step (h : InS w l d2 d3 nd nm rows0 tx t td rl tk O j x y o2 o3 kv2 kv3 Z Nw rows rn as) (hnd : nd < rows0.length) {a : Str} (hta : toldL[j]? = some a) (hna : a ∉ toldL.take j) {R S : NR} (hR : rows[nd]? = some R) {sp : Str} {ws : List Str} {pv : Value} (hS : NR.New S (st "attribute") a (st "") a (valOf sp ws) pv)
    (hsp : isG sp) (hws : ∀ u ∈ ws, isW u) (hwl : ws.length ≤ 3) {tn : Tok} {an rn' : Nat} {Z3 : List (Addr × Obj)} {o2' o3' : Obj} {x' y' : Int} {D : Addr} {ys : List Value} {n2 : Nat} (xy : 0 ≤ x' ∧ 0 ≤ y' ∧ y' < 2147483647)
    (W5 : TW w.params Z3 t td rl rn' tk ((rows ++ [S]).set nd { R with av := R.av ++ [.int rows.length tn], an := an })) (K5 : Keep t td rl ((rows ++ [S]).set nd { R with av := R.av ++ [.int rows.length tn], an := an }) (((D, lst ys n2) :: Nw) ++ O) Z3) (z1 : ∀ p ∈ Z3, p.1 ≠ l) (z2 : ∀ p ∈ Z3, p.1 ≠ d2) (z3 : ∀ p ∈ Z3, p.1 ≠ d3)
    (i2 : o2'.IsDictOf (PySem.strKind prg w) (stored kv2 a (.ref D))) (i3 : o3'.IsDictOf (PySem.strKind prg w) (stored kv3 a (.int rows.length tn))) (hys : StrsAre ys ws) (hDn : ∀ p ∈ Z, p.1 ≠ D) :
    InS w l d2 d3 nd nm rows0 tx t td rl tk O (j + 1) x' y' o2' o3' (stored kv2 a (.ref D)) (stored kv3 a (.int rows.length tn)) Z3 ((D, lst ys n2) :: Nw) ((rows ++ [S]).set nd { R with av := R.av ++ [.int rows.length tn], an := an }) rn' (as ++ [⟨rows.length, a, ws⟩]) := by
  refine E0_8 (hS) ?_; (try clear hS); intro s1 s2 s3 s4 s5 s6 s7 s8
  have hv := val_ok hsp hws hwl
  have hfr := h.fresh hna
  have e2 := stored_absent (kv_none h.a2 (lookup_no (f := AI.words) hfr)) (.ref D)
  have e3 := stored_absent (kv_none h.a3 (lookup_no (f := AI.node) hfr)) (.int rows.length tn)
  refine ⟨xy, z1, z2, z3, W5, fun p hp q hq => ?_, K5, i2, ?_, i3, ?_, h.cur.att hnd hR rfl s2 s4 (by rw [s5]; exact hv.1) (by rw [s5]; omega), fun b hb => ?_, ?_, fun b hb => ?_, ?_, ?_⟩
  · rcases List.mem_cons.mp hp with rfl | hp
    · exact hDn q (h.keep q (List.mem_append_right _ hq)).1
    · exact h.fr p hp q hq
  · rw [e2, List.map_append]
    exact All2.append (h.a2.mono fun _ _ q => ⟨q.1, q.2.mono fun p hp => .tail _ hp⟩) ⟨⟨rfl, D, ys, n2, rfl, .head _, hys⟩, trivial⟩
  · rw [e3, List.map_append]
    exact All2.append h.a3 ⟨⟨rfl, tn, rfl⟩, trivial⟩
  · rcases List.mem_append.mp hb with hb | hb
    · exact take_mono (h.nms b hb)
    · rw [List.mem_singleton.mp hb, List.take_succ, hta]; simp
  · rw [List.map_append]
    refine List.nodup_append.mpr ⟨h.ndn, by simp, fun p hp q hq e => ?_⟩
    rw [List.map_singleton, List.mem_singleton] at hq
    have hq' : q = a := hq
    exact hfr (by rw [← hq', ← e]; exact hp)
  · rcases List.mem_append.mp hb with hb | hb
    · exact h.wds b hb
    · rw [List.mem_singleton.mp hb]; exact ⟨hwl, hws⟩
  · rw [op_len]; have := h.len; omega
  · rw [List.length_append, List.length_singleton]; have := h.alen; omega
end
def inJ (w : World) (l d2 d3 : Addr) (tv rv uv : Value) (oat oab onm ond orw : Option Value) (nd : Nat) (nm : Str) (rows0 : List NR) (tx : List Int) (t td rl : Addr) (tk : Tok) (O : List (Addr × Obj)) : Jt := fun j m n => ∃ otd ovl owd x y t1 t2 nl o2 o3 kv2 kv3 Z Nw rows rn as,
  m = drM (.ref l) tv rv uv oat oab onm ond orw otd ovl owd ∧ n = (l, src x y t1 t2 nl) :: (d2, o2) :: (d3, o3) :: Z ∧ InS w l d2 d3 nd nm rows0 tx t td rl tk O j x y o2 o3 kv2 kv3 Z Nw rows rn as
noncomputable abbrev dB : List Stmt := forBody (b_29.val[2]?)
noncomputable abbrev dB2 : List Stmt := forBody (dB[4]?)
noncomputable abbrev dE (L' : Addr) : Env := envOf (st "_law_drawn") s_29.val L' 489 (.ref 488)
theorem told_at {t1 t2 t3 : Tok} {i : Nat} {v : Value} (h : [Value.str (st "s") t1, .str (st "n") t2, .str (st "r") t3][i]? = some v) : ∃ x tx, v = .str x tx ∧ toldL[i]? = some x ∧ x ∉ toldL.take i := by
  match i, h with
  | 0, h => exact ⟨st "s", t1, by simpa using h.symm, rfl, by simp⟩
  | 1, h => exact ⟨st "n", t2, by simpa using h.symm, rfl, by decide⟩
  | 2, h => exact ⟨st "r", t3, by simpa using h.symm, rfl, by decide⟩
  | i + 3, h => simp at h
variable (w : World) {dp un : Nat} {gd : Option (List Code)} {env : Env} {outer : List Env} {g₀ base : Heap} {mean : ExcName → Option Value} {mg mb : Str → Option Value} {L' : Addr} {s : Shared} {E : Value → Shared → Prop} {Q : Flow → Shared → Prop}
    {t td rl : Addr} {rn : Nat} {tk : Tok} {rows : List NR}
theorem words39 : True := by
  k_with "W48" => (k_here; (try dsimp only); k_dflt (first | (refine' take_t _ ?C ?U ?hx ?ht ?ht' ?hd ?hu ?_; (case C => k_extra "CXC"); (case U => k_updF); (case hx => k_asm); (case ht => omega); (case ht' => omega); (case hd => ktr_room); (case hu => ktr_units); k_whole; (intro d x' y' t1 t2 t3 n' h' tk' hx' hd0 hd1 F' N'); (try dsimp only at N'); (try dsimp only)) | ((with_reducible show wpAny _ _ (call (Value.ref 482) _) _ _ _); refine stopAt ?_) | ((with_reducible show wpAny _ _ (call (Value.ref 344) _) _ _ _); refine stopAt ?_)))
  trivial
local macro_rules | `(tactic| walk_at "call ref") => `(tactic| k_extra "W48")

local macro_rules | `(tactic| walk_at "PAD") => `(tactic| fail)
theorem drawn_inner {lv ri l d2 d3 : Addr} {nd : Nat} {tn tm : Tok} {nm : Str} {va uv : Value} {nr nv nl : Nat} {rL : Addr} {x y : Int} {tx ty s1 s2 s3 : Tok} {o2 o3 : Obj} {O Z : List (Addr × Obj)} {oat oab onm : Option Value} {otd ovl owd : Option Value} {kt : List Int}
    (B : Below (aT dp un gd env outer) base (env :: outer) g₀) (X : (KF w.params).In g₀) (T : Top q (looseW q loose) mean mg mb g₀)
    (F : Fr g₀ (dE L').locals s.heap (drM (.ref l) (.ref t) (.ref rL) uv oat oab onm (some (.int nd tn)) (some (.ref ri)) otd ovl owd)) (N : News g₀ (dE L').locals s.heap ((l, src x y tx ty nl) :: (d2, o2) :: (d3, o3) :: Z))
    (l23 : @Ne Nat l d2 ∧ @Ne Nat l d3 ∧ @Ne Nat d2 d3) (hS : InS w l d2 d3 nd nm rows kt t td rl tk O 0 x y o2 o3 [] [] Z [] rows rn [])
    (hlv : (lv, lst [.str (st "s") s1, .str (st "n") s2, .str (st "r") s3] nv) ∈ O) (hri : (ri, lst [.int nd tn, .str nm tm, .ref d2, .ref d3, va] nr) ∈ O) (hz : rows.length ≤ 800) (hnd : nd < rows.length) (lo : (d2 == sysModules) = false ∧ (d3 == sysModules) = false)
    (hd : dp + 9 < recursionLimit) (hu : un + 150 < cLine) (hP : PassesOwn (model prg w) ((aT dp un gd env outer).deeper (dE L')) (dE L') E)
    (done : ∀ m h' tk' otd ovl owd x y t1 t2 nl o2 o3 kv2 kv3 Z Nw rows' rn as, m = drM (.ref l) (.ref t) (.ref rL) uv oat oab onm (some (.int nd tn)) (some (.ref ri)) otd ovl owd → InS w l d2 d3 nd nm rows kt t td rl tk O 3 x y o2 o3 kv2 kv3 Z Nw rows' rn as →
      Fr g₀ (dE L').locals h' m → News g₀ (dE L').locals h' ((l, src x y t1 t2 nl) :: (d2, o2) :: (d3, o3) :: Z) → Q .next { s with heap := h', toks := tk' }) :
    wpAny (model prg w) ((aT dp un gd env outer).deeper (dE L')) (pyIter (.ref lv)) (fun it s₂ => LoopAtV prg w ((aT dp un gd env outer).deeper (dE L')) g₀ (dE L') (st "told") dB2 Q E it s₂) E s := by
  k_extra "FILL"
  refine E0_3 (l23) ?_; (try clear l23); intro l2 l3 n23
  have l2 := neN l2
  have l3 := neN l3
  have n23 := neN n23
  refine for_list_J (inJ w l d2 d3 (.ref t) (.ref rL) uv oat oab onm (some (.int nd tn)) (some (.ref ri)) nd nm rows kt t td rl tk O) rfl F N (.tail _ (.tail _ (.tail _ (hS.keep _ hlv).1))) ⟨otd, ovl, owd, x, y, tx, ty, nl, o2, o3, [], [], Z, [], rows, rn, [], rfl, rfl, hS⟩ (goOn ?_) (goOn ?_)
  · intro I i v m₁ news₁ it h tk1 hv hlt hoff hmem hJ hcls F1 N1
    try k_fold
    refine E17_3 (hJ) ?_; (try clear hJ); intro otd ovl owd x y t1 t2 nl o2 o3 kv2 kv3 Z Nw rows' rn as hq7 hq8 hS; obtain rfl := hq7; obtain rfl := hq8
    refine E2_3 (told_at hv) ?_; intro a ta hq9 hta hna; obtain rfl := hq9
    have hxy := hS.xy
    have ol := hS.ol
    have oo2 := hS.o2'
    have oo3 := hS.o3'
    have hIl := neN fun e => hoff (l, src x y t1 t2 nl) (.head _) (Eq.symm e)
    have hI2 := neN fun e => hoff (d2, o2) (.tail _ (.head _)) (Eq.symm e)
    have hI3 := neN fun e => hoff (d3, o3) (.tail _ (.tail _ (.head _))) (Eq.symm e)
    have hIZ : ∀ p ∈ Z, p.1 ≠ I := fun p hp => hoff p (.tail _ (.tail _ (.tail _ hp)))
    have mt1 := hS.W.T.h1
    have mt2 := hS.W.T.h2
    have hri1 := (hS.keep _ (List.mem_append_right _ hri)).1
    replace F1 := Fr.of_eq (m' := drM (.ref l) (.ref t) (.ref rL) uv oat oab onm (some (.int nd tn)) (some (.ref ri)) (some (.str a ta)) ovl owd) (by k_extra "MAP") F1
    with_unfolding_all change wpAny _ _ (execs (_ :: []) _) _ _ _
    k_steps
    · refine goOn ?_
      have hN2 := news_sub N' (b := (l, src x' y' t1 t2 n') :: (I, it) :: (d2, o2) :: (d3, o3) :: Z) (by k_extra "SUB")
      clear N'
      refine' lvalue_t w ?C ?hl hx' ?hd ?hu ?_
      case C => k_extra "CXC"
      case hl => exact Offs.mem (by walk_at "OFFS")
      case hd => ktr_room
      case hu => ktr_units
      intro lv2 D sp ws ys x2 y2 t4 t5 t6 n1 n2 n3 h2 tk2 hxy2 hsp hws hwl hys hlD hDn hlt3 F2 N2
      try k_fold
      k_steps
      refine goOn ?_
      rename News _ _ _ _ => N3
      rename Fr g₀ _ _ _ => F3
      have hZs : ∀ p ∈ Z, p ∈ (lv2, lst [.str (valOf sp ws) t6, .ref D] n1) :: (D, lst ys n2) :: (l, src x2 y2 t4 t5 n3) :: (I, it) :: (d2, o2) :: (d3, o3) :: Z := fun p hp => .tail _ (.tail _ (.tail _ (.tail _ (.tail _ (.tail _ hp)))))
      refine E1_5 (hS.cur.at_) ?_; intro R1 hR1 hz0 hz1 hz2 hz3; clear hz0; clear hz1; clear hz2; clear hz3
      refine E0_3 (hS.attrs hna hR1) ?_; intro hk1 hal hav
      have hj3 : i < 3 := lt_of_get hta
      have hrl := hS.len
      have hnI := hS.W.not_in hIZ
      have hnl := hS.W.not_in ol
      have hn2 := hS.W.not_in oo2
      have hn3 := hS.W.not_in oo3
      have hnD := hS.W.not_in fun p hp => hDn p (.tail _ (.tail _ (.tail _ hp)))
      refine' setattr_t w (O := (I, it) :: (l, src x2 y2 t4 t5 n3) :: (d2, o2) :: (d3, o3) :: ((D, lst ys n2) :: Nw) ++ O) (R := R1) ?C (hS.W.mono hZs) ?K (by omega) ?hR hk1 ?z1 ?z2 hav ?hd ?hu ?_
      case C => k_extra "CXC"
      case K => exact Keep.cons (by k_mem) hnI (Keep.cons (by k_mem) hnl (Keep.cons (by k_mem) hn2 (Keep.cons (by k_mem) hn3 (Keep.cons (by k_mem) hnD (hS.keep.up hZs)))))
      case hR => rw [Int.toNat_natCast]; exact hR1
      case z1 => omega
      case z2 => omega
      case hd => ktr_room
      case hu => ktr_units
      intro all' S rn' tn' an' h3 tk3 hSn W' K3 F4 N4
      try k_fold
      rw [Int.toNat_natCast] at W' K3
      have hoff4 : ∀ p ∈ ((D, lst ys n2) :: Nw) ++ O, p.1 ≠ I ∧ p.1 ≠ l ∧ p.1 ≠ d2 ∧ p.1 ≠ d3 := by
        intro p hp
        rcases List.mem_cons.mp hp with rfl | hp
        · exact ⟨fun e => hDn _ (.head _) e.symm, fun e => hlD e.symm, fun e => hDn _ (.tail _ (.head _)) e.symm, fun e => hDn _ (.tail _ (.tail _ (.head _))) e.symm⟩
        · have := (hS.keep p hp).1
          exact ⟨hIZ p this, ol p this, oo2 p this, oo3 p this⟩
      refine E1_7 (strip4 W' K3 hoff4 N4) ?_; intro Z3 W5 K5 N5 z0 z1 z2 z3
      clear N4 N3
      have hri3 := (K5 _ (List.mem_append_right _ hri)).1
      have hl2 := hS.a2.length
      have hl3 := hS.a3.length
      rw [List.length_map] at hl2 hl3
      have hal2 := hS.alen
      have hk2 : kv2.length ≤ 1000 := by omega
      have hk3 : kv3.length ≤ 1000 := by omega
      have hi2 := hS.i2
      have hi3 := hS.i3
      k_steps
      rename News _ _ _ _ => N6
      rename Fr g₀ _ _ _ => F6
      rename Obj.IsDictOf _ _ (stored kv2 _ _) => e2
      rename Obj.IsDictOf _ _ (stored kv3 _ _) => e3
      refine JPost.fin ((l, src x2 y2 t4 t5 n3) :: (d2, _) :: (d3, _) :: Z3) F6 N6 (by k_extra "SUB") (fun p hp => ?_) ⟨.tail _ (.tail _ (.tail _ (K5 _ (List.mem_append_right _ hlv)).1)), some (.str a ta), some (.str (valOf sp ws) t6), some (.ref D), x2, y2, t4, t5, n3, _, _, _, _, Z3, _, _, rn', _, ?mp, rfl, hS.step hnd hta hna hR1 hSn hsp hws hwl hxy2 W5 K5 z1 z2 z3 e2 e3 hys (fun p hp => hDn p (.tail _ (.tail _ (.tail _ hp))))⟩
      case mp => k_extra "MAP"
      rcases List.mem_cons.mp hp with rfl | hp
      · exact hoff (l, src x y _ _ nl) (.head _)
      rcases List.mem_cons.mp hp with rfl | hp
      · exact hoff (d2, o2) (.tail _ (.head _))
      rcases List.mem_cons.mp hp with rfl | hp
      · exact hoff (d3, o3) (.tail _ (.tail _ (.head _)))
      · exact z0 p hp
    · refine JPost.fin ((l, src x' y' t1 t2 n') :: (d2, o2) :: (d3, o3) :: Z) F' N' (by k_extra "SUB") (fun p hp => ?_) ⟨.tail _ (.tail _ (.tail _ (hS.keep _ (List.mem_append_right _ hlv)).1)), _, _, _, _, _, _, _, _, _, _, _, _, _, _, _, _, _, rfl, rfl, hS.skip hx'⟩
      rcases List.mem_cons.mp hp with rfl | hp
      · exact hoff (l, src x y _ _ nl) (.head _)
      · exact hoff p (.tail _ hp)
  · intro m₁ news₁ h tk1 hmem hJ F1 N1
    try k_fold
    refine E17_3 (hJ) ?_; (try clear hJ); intro otd ovl owd x y t1 t2 nl o2 o3 kv2 kv3 Z Nw rows' rn as hq4 hq5 hS; obtain rfl := hq4; obtain rfl := hq5
    exact done _ h tk1 otd ovl owd x y t1 t2 nl o2 o3 kv2 kv3 Z Nw rows' rn as rfl hS F1 N1
end

-- part p26_bld.lean
structure LR where
  node : Nat
  name : Str
  as : List AI
  above : Option Nat
def kidsOf (lrs : List LR) (ab : Option Nat) : List Int := (lrs.filter fun r => decide (r.above = ab)).map fun r => (r.node : Int)
def TxtOk (rows : List NR) (tx : List Int) : Prop := ∀ x ∈ tx, 0 ≤ x ∧ ∃ S, rows[x.toNat]? = some S ∧ S.kind ≠ st "element"
theorem TxtOk.ext {rows rows' : List NR} (x : Ext rows rows') {tx : List Int} (h : TxtOk rows tx) : TxtOk rows' tx := fun y hy => by
  refine E0_2 (h y hy) ?_; intro h0 hr6; refine E1_2 (hr6) ?_; (try clear hr6); intro S hS hk
  refine E1_2 (x _ _ hS) ?_; intro S' hS' s
  exact ⟨h0, S', hS', by rw [s.1]; exact hk⟩
structure Bld (rows : List NR) (lrs : List LR) : Prop where
  root : ∃ R, rows[0]? = some R ∧ R.kind = st "root" ∧ IntsAre R.kv (kidsOf lrs none)
  els : ∀ i lr, lrs[i]? = some lr → ∃ tx, TxtOk rows tx ∧ tx.length ≤ 1 ∧ ∃ R, rows[lr.node]? = some R ∧ R.kind = st "element" ∧ R.name = lr.name ∧ IntsAre R.kv (tx ++ kidsOf lrs (some i)) ∧ All2 (AttOk rows) R.av lr.as
  pos : ∀ lr ∈ lrs, 0 < lr.node
  nd : (lrs.map LR.node).Nodup
  ab : ∀ i lr, lrs[i]? = some lr → (lr.above = none ↔ i = 0) ∧ ∀ a, lr.above = some a → a < i
  len : rows.length ≤ 1 + 5 * lrs.length
  nms : ∀ lr ∈ lrs, lr.name = st "a" ∨ lr.name = st "b"
  ats : ∀ lr ∈ lrs, (lr.as.map AI.name).Nodup ∧ lr.as.length ≤ 3 ∧ ∀ a ∈ lr.as, a.name ∈ toldL ∧ a.words.length ≤ 3 ∧ ∀ u ∈ a.words, isW u
theorem kidsOf_snoc (lrs : List LR) (lr : LR) (ab : Option Nat) : kidsOf (lrs ++ [lr]) ab = kidsOf lrs ab ++ if lr.above = ab then [(lr.node : Int)] else [] := by
  unfold kidsOf
  rw [List.filter_append, List.map_append]
  by_cases h : lr.above = ab <;> simp [h]
theorem kidsOf_len (lrs : List LR) (ab : Option Nat) : (kidsOf lrs ab).length ≤ lrs.length := by
  unfold kidsOf
  rw [List.length_map]
  exact List.length_filter_le _ _
theorem nd_get {lrs : List LR} (h : (lrs.map LR.node).Nodup) {i j : Nat} {a b : LR} (hi : lrs[i]? = some a) (hj : lrs[j]? = some b) (e : a.node = b.node) : i = j := by
  have h1 : (lrs.map LR.node)[i]? = some a.node := by rw [List.getElem?_map, hi]; rfl
  have h2 : (lrs.map LR.node)[j]? = some b.node := by rw [List.getElem?_map, hj]; rfl
  have l1 := lt_of_get h1
  have l2 := lt_of_get h2
  rw [List.getElem?_eq_getElem l1] at h1
  rw [List.getElem?_eq_getElem l2] at h2
  exact (List.getElem_inj h).mp (by rw [Option.some.inj h1, Option.some.inj h2, e])
/-- the parent's row, by what is above -/
def ParOk (lrs : List LR) (k : Nat) : Option Nat → Prop
  | none => k = 0 ∧ lrs = []
  | some a => ∃ lr, lrs[a]? = some lr ∧ k = lr.node
theorem Bld.step {rows rows' : List NR} {lrs : List LR} (h : Bld rows lrs) {k : Nat} {R S : NR} {tn : Tok} {kn : Nat} {ab : Option Nat} {nm : Str} {as : List AI} {tx : List Int} (hp : ParOk lrs k ab) (hR : rows[k]? = some R)
    (c : Cur ((rows ++ [S]).set k { R with kv := R.kv ++ [.int rows.length tn], kn := kn }) rows' rows.length nm as tx) (htx : tx.length ≤ 1) (hlen : rows'.length ≤ rows.length + 5) (hnm : nm = st "a" ∨ nm = st "b")
    (hats : (as.map AI.name).Nodup ∧ as.length ≤ 3 ∧ ∀ a ∈ as, a.name ∈ toldL ∧ a.words.length ≤ 3 ∧ ∀ u ∈ a.words, isW u) : Bld rows' (lrs ++ [⟨rows.length, nm, as, ab⟩]) := by
  have x : Ext rows ((rows ++ [S]).set k { R with kv := R.kv ++ [.int rows.length tn], kn := kn }) := op_ext hR (Same.rfl' R)
  have x' := x.trans c.ext
  have kl := lt_of_get hR
  have look : ∀ y, y < rows.length → rows'[y]? = if y = k then some { R with kv := R.kv ++ [.int rows.length tn], kn := kn } else rows[y]? := fun y hy => by
    rw [c.frame y (by rw [op_len]; omega) (Nat.ne_of_lt hy)]
    by_cases e : y = k
    · rw [if_pos e, e]; exact op_at hR
    · rw [if_neg e]; exact op_ne e hy
  refine E1_3 (h.root) ?_; intro R0 r0 r1 r2
  refine ⟨?_, fun i lr hi => ?_, fun lr hl => ?_, ?_, fun i lr hi => ?_, ?_, fun lr hl => ?_, fun lr hl => ?_⟩
  · have := look 0 (lt_of_get r0)
    rw [kidsOf_snoc]
    cases ab with
    | none =>
      obtain ⟨rfl, rfl⟩ := hp
      rw [r0] at hR
      cases hR
      rw [if_pos rfl] at this
      exact ⟨_, this, r1, by rw [if_pos rfl]; exact ints_append r2 (.cons _ _ .nil)⟩
    | some a =>
      refine E1_2 (hp) ?_; (try clear hp); intro lr hl hq7; obtain rfl := hq7
      have hpos := h.pos lr (List.mem_of_getElem? hl)
      rw [if_neg (by omega), r0] at this
      exact ⟨R0, this, r1, by rw [if_neg (by simp), List.append_nil]; exact r2⟩
  · rw [kidsOf_snoc]
    rcases Nat.lt_or_ge i lrs.length with hlt | hge
    · rw [List.getElem?_append_left hlt] at hi
      refine E1_2 (h.els i lr hi) ?_; intro tx1 t1 hr8; refine E0_2 (hr8) ?_; (try clear hr8); intro t2 hr9; refine E1_5 (hr9) ?_; (try clear hr9); intro Ri e k1 k2 k3 k4
      refine ⟨tx1, t1.ext x', t2, ?_⟩
      have hl := look lr.node (lt_of_get e)
      by_cases hk : lr.node = k
      · rw [if_pos hk] at hl
        have hab : ab = some i := by
          cases ab with
          | none =>
            have hpos := h.pos lr (List.mem_of_getElem? hi)
            have := hp.1
            omega
          | some a =>
            refine E1_2 (hp) ?_; (try clear hp); intro lra q1 q2
            rw [nd_get h.nd q1 hi (by rw [hk, q2])]
        rw [hk, hR] at e
        cases e
        refine ⟨_, hl, k1, k2, ?_, k4.mono fun _ _ q => q.ext x'⟩
        rw [if_pos hab, ← List.append_assoc]
        exact ints_append k3 (.cons _ _ .nil)
      · rw [if_neg hk, e] at hl
        have hab : ab ≠ some i := fun e => by
          subst e
          refine E1_2 (hp) ?_; (try clear hp); intro lra q1 q2
          rw [hi] at q1
          cases q1
          exact hk q2.symm
        refine ⟨Ri, hl, k1, k2, ?_, k4.mono fun _ _ q => q.ext x'⟩
        rw [if_neg hab, List.append_nil]
        exact k3
    · have hi2 : i = lrs.length ∧ lr = ⟨rows.length, nm, as, ab⟩ := by
        rw [List.getElem?_append_right hge] at hi
        have := lt_of_get hi
        simp only [List.length_singleton] at this
        have e : i - lrs.length = 0 := by omega
        rw [e] at hi
        exact ⟨by omega, by simpa using hi.symm⟩
      obtain ⟨rfl, rfl⟩ := hi2
      refine E1_5 (c.at_) ?_; intro R1 q1 q2 q3 q4 q5
      have k0 : kidsOf lrs (some lrs.length) = [] := by
        unfold kidsOf
        rw [List.filter_eq_nil_iff.mpr, List.map_nil]
        intro r hr
        obtain ⟨j, hj⟩ := List.getElem?_of_mem hr
        simp only [decide_eq_true_eq]
        intro e
        have := (h.ab j r hj).2 _ e
        have := lt_of_get hj
        omega
      have hab : ab ≠ some lrs.length := fun e => by
        subst e
        refine E1_2 (hp) ?_; (try clear hp); intro lra q1 q2
        exact absurd (lt_of_get q1) (Nat.lt_irrefl _)
      refine ⟨tx, c.txt, htx, R1, q1, q2, q3, ?_, q5⟩
      rw [if_neg hab, k0, List.append_nil, List.append_nil]
      exact q4
  · rcases List.mem_append.mp hl with hl | hl
    · exact h.pos lr hl
    · rw [List.mem_singleton.mp hl]; have := lt_of_get r0; show 0 < rows.length; omega
  · rw [List.map_append, List.map_singleton]
    refine List.nodup_append.mpr ⟨h.nd, by simp, fun a ha b hb e => ?_⟩
    refine E1_2 (List.mem_map.mp ha) ?_; intro lr hl hq0; obtain rfl := hq0
    obtain ⟨i, hi⟩ := List.getElem?_of_mem hl
    refine E1_2 (h.els i lr hi) ?_; intro _ _ hr1; refine E0_2 (hr1) ?_; (try clear hr1); intro _ hr2; refine E1_2 (hr2) ?_; (try clear hr2); intro Ri e2 _
    have := lt_of_get e2
    rw [List.mem_singleton] at hb
    have hb' : b = rows.length := hb
    omega
  · rcases Nat.lt_or_ge i lrs.length with hlt | hge
    · rw [List.getElem?_append_left hlt] at hi
      exact h.ab i lr hi
    · have hi2 : i = lrs.length ∧ lr = ⟨rows.length, nm, as, ab⟩ := by
        rw [List.getElem?_append_right hge] at hi
        have := lt_of_get hi
        simp only [List.length_singleton] at this
        have e : i - lrs.length = 0 := by omega
        rw [e] at hi
        exact ⟨by omega, by simpa using hi.symm⟩
      obtain ⟨rfl, rfl⟩ := hi2
      cases ab with
      | none =>
        obtain ⟨_, rfl⟩ := hp
        exact ⟨⟨fun _ => rfl, fun _ => rfl⟩, fun a e => by cases e⟩
      | some a =>
        refine E1_2 (hp) ?_; (try clear hp); intro lra q1 q2
        have := lt_of_get q1
        refine ⟨⟨(fun e => nomatch e), (fun e => by omega)⟩, fun b e => ?_⟩
        cases e
        exact this
  · rw [List.length_append, List.length_singleton]; have := h.len; omega
  · rcases List.mem_append.mp hl with hl | hl
    · exact h.nms lr hl
    · rw [List.mem_singleton.mp hl]; exact hnm
  · rcases List.mem_append.mp hl with hl | hl
    · exact h.ats lr hl
    · rw [List.mem_singleton.mp hl]; exact hats

-- part p27_rest.lean
section
open PySem.Calls PyProof.V PySem.Spec
local macro_rules | `(tactic| walk_at "call ref") => `(tactic| k_extra "W13")

def AbIs (v : Value) : Option Nat → Prop
  | none => v = .none
  | some a => ∃ t, v = .int (a : Int) t
def RowIs (w : World) (O : List (Addr × Obj)) (v : Value) (lr : LR) : Prop := ∃ ri nr d2 d3 o2 o3 kv2 kv3 tn tm va, v = .ref ri ∧ (ri, lst [.int (lr.node : Int) tn, .str lr.name tm, .ref d2, .ref d3, va] nr) ∈ O ∧ AbIs va lr.above ∧ (d2, o2) ∈ O ∧ (d3, o3) ∈ O ∧ ((d2 == sysModules) = false ∧ (d3 == sysModules) = false) ∧
  o2.IsDictOf (PySem.strKind prg w) kv2 ∧ All2 (KV (WordsIs O)) kv2 (lr.as.map fun a => (a.name, a.words)) ∧ o3.IsDictOf (PySem.strKind prg w) kv3 ∧ All2 (KV IsInt) kv3 (lr.as.map fun a => (a.name, a.node))
theorem RowIs.mono {w : World} {O O' : List (Addr × Obj)} (s : ∀ p ∈ O, p ∈ O') {v : Value} {lr : LR} (h : RowIs w O v lr) : RowIs w O' v lr := by
  refine E11_10 (h) ?_; (try clear h); intro ri nr d2 d3 o2 o3 kv2 kv3 tn tm va e a b c d f g i j k
  exact ⟨ri, nr, d2, d3, o2, o3, kv2, kv3, tn, tm, va, e, s _ a, b, s _ c, s _ d, f, g, i.mono fun _ _ q => ⟨q.1, q.2.mono s⟩, j, k⟩
def AtsOk (as : List AI) : Prop := (as.map AI.name).Nodup ∧ as.length ≤ 3 ∧ ∀ a ∈ as, a.name ∈ toldL ∧ a.words.length ≤ 3 ∧ ∀ u ∈ a.words, isW u
theorem InS.ats {w : World} {l d2 d3 : Addr} {nd : Nat} {nm : Str} {rows0 : List NR} {tx : List Int} {t td rl : Addr} {tk : Tok} {O : List (Addr × Obj)} {x y : Int} {o2 o3 : Obj} {kv2 kv3 : List (Str × Value)} {Z Nw : List (Addr × Obj)} {rows : List NR} {rn : Nat} {as : List AI}
    (h : InS w l d2 d3 nd nm rows0 tx t td rl tk O 3 x y o2 o3 kv2 kv3 Z Nw rows rn as) : AtsOk as := ⟨h.ndn, h.alen, fun a ha => ⟨h.nms a ha, h.wds a ha⟩⟩
variable (w : World) {dp un : Nat} {gd : Option (List Code)} {env : Env} {outer : List Env} {g₀ base : Heap} {mean : ExcName → Option Value} {mg mb : Str → Option Value} {L' : Addr} {s : Shared} {E : Value → Shared → Prop} {P : Flow → Shared → Prop}
    {t td rl : Addr} {rn : Nat} {tk : Tok} {rows : List NR}
theorem words41 : True := by
  k_with "W49" => ((with_reducible show wpAny _ _ (execs (Stmt.Expr (Expr.Call (Expr.Attribute (Expr.Name (Str.ofString "rows") _) _ _) _ _ _) _ :: _) _) _ _ _); refine stopAt ?_)
  k_with "W50" => (k_here; (try dsimp only); k_dflt (first | (refine' take_t _ ?C ?U ?hx ?ht ?ht' ?hd ?hu ?_; (case C => k_extra "CXC"); (case U => k_updF); (case hx => k_asm); (case ht => omega); (case ht' => omega); (case hd => ktr_room); (case hu => ktr_units); k_whole; (intro d x' y' t1 t2 t3 n' h' tk' hx' hd0 hd1 F' N'); (try dsimp only at N'); (try dsimp only)) | ((with_reducible show wpAny _ _ (call (Value.ref 316) _) _ _ _); refine stopAt ?_)))
  trivial
local macro_rules | `(tactic| walk_at "execs cons") => `(tactic| k_extra "W49")
local macro_rules | `(tactic| walk_at "call ref") => `(tactic| k_extra "W50")

local macro_rules | `(tactic| walk_at "PAD") => `(tactic| fail)
theorem drawn_rest {I l rL : Addr} {it : Obj} {nd : Nat} {tn tm : Tok} {nm : Str} {va uv : Value} {nl rLn : Nat} {x y : Int} {tx ty : Tok} {rv : List Value} {O Z : List (Addr × Obj)} {oat : Value} {orw otd ovl owd : Option Value} {ab : Option Nat}
    (B : Below (aT dp un gd env outer) base (env :: outer) g₀) (X : (KF w.params).In g₀) (T : Top q (looseW q loose) mean mg mb g₀)
    (F : Fr g₀ (dE L').locals s.heap (drM (.ref l) (.ref t) (.ref rL) uv (some oat) (some va) (some (.str nm tm)) (some (.int nd tn)) orw otd ovl owd)) (N : News g₀ (dE L').locals s.heap ((I, it) :: (l, src x y tx ty nl) :: (rL, lst rv rLn) :: Z))
    (dist : @Ne Nat I l ∧ @Ne Nat I rL ∧ @Ne Nat l rL) (hoff : ∀ p ∈ Z, p.1 ≠ I ∧ p.1 ≠ l ∧ p.1 ≠ rL) (W : TW w.params Z t td rl rn tk rows) (K : Keep t td rl rows O Z) (hab : AbIs va ab) (hx : 0 ≤ x ∧ 0 ≤ y ∧ y < 2147483647)
    (c : Cur rows rows nd nm [] []) (hnd : nd < rows.length) (hz : rows.length ≤ 100) (hrv : rv.length ≤ 100)
    (hd : dp + 9 < recursionLimit) (hu : un + 150 < cLine) (hP : PassesOwn (model prg w) ((aT dp un gd env outer).deeper (dE L')) (dE L') E)
    (fin : ∀ h' tk' orw otd ovl owd x y t1 t2 nl rLn' Z' O' rows' rn' as kt v, (0 ≤ x ∧ 0 ≤ y ∧ y < 2147483647) → (∀ p ∈ Z', p.1 ≠ I ∧ p.1 ≠ l ∧ p.1 ≠ rL) → TW w.params Z' t td rl rn' tk rows' → Keep t td rl rows' (O' ++ O) Z' → RowIs w O' v ⟨nd, nm, as, ab⟩ → Cur rows rows' nd nm as kt → kt.length ≤ 1 → rows'.length ≤ rows.length + 4 → AtsOk as →
      Fr g₀ (dE L').locals h' (drM (.ref l) (.ref t) (.ref rL) uv (some oat) (some va) (some (.str nm tm)) (some (.int nd tn)) orw otd ovl owd) → News g₀ (dE L').locals h' ((I, it) :: (l, src x y t1 t2 nl) :: (rL, lst (rv ++ [v]) rLn') :: Z') → P .next { s with heap := h', toks := tk' }) :
    wpAny (model prg w) ((aT dp un gd env outer).deeper (dE L')) (execs (dB.drop 3) (dE L')) P E s := by
  refine E0_3 (dist) ?_; (try clear dist); intro hIl hIr hlr
  have hIl := neN hIl
  have hIr := neN hIr
  have hlr := neN hlr
  k_extra "FILL"
  with_unfolding_all change wpAny _ _ (execs (_ :: _ :: _ :: _ :: []) _) _ _ _
  k_steps
  refine goOn ?_
  rename News _ _ _ _ => N3
  rename Fr g₀ _ _ _ => F3
  rename_i d2 _ o2 lo2 hs2 _ _ _ a1 a2 a3 z2 d3 _ o3 lo3 hs3 _ _ _ a4 a5 a6 a7 z3 ri _ _ _ b1 b2 b3 b4 b5 zr _ lv _ c1 c2 c3 c4 c5 c6 zv
  replace F3 := Fr.of_eq (L := (dE L').locals) (m' := drM (.ref l) (.ref t) (.ref rL) uv (some oat) (some va) (some (.str nm tm)) (some (.int nd tn)) (some (.ref ri)) otd ovl owd) (by k_extra "MAP") F3
  have zZ2 := allLt_ne z2
  have zZ3 := allLt_ne z3
  have zZr := allLt_ne zr
  have zZv := allLt_ne zv
  have zl : ∀ p ∈ Z, p.1 ≠ l := fun p hp => (hoff p hp).2.1
  have zI : ∀ p ∈ Z, p.1 ≠ I := fun p hp => (hoff p hp).1
  have zrL : ∀ p ∈ Z, p.1 ≠ rL := fun p hp => (hoff p hp).2.2
  have hZx : ∀ p ∈ Z, p ∈ (lv, lst [.str (st "s") tk, .str (st "n") (tk + 1), .str (st "r") (tk + 1 + 1)] 0) :: (ri, lst [.int nd tn, .str nm tm, .ref d2, .ref d3, va] 0) :: (I, it) :: (rL, lst rv rLn) :: Z := fun p hp => .tail _ (.tail _ (.tail _ (.tail _ hp)))
  refine' drawn_inner w (O := (lv, _) :: (ri, _) :: (I, it) :: (rL, lst rv rLn) :: O) (kt := []) B X T F3 (news_sub N3 ?sN) ⟨by k_ne, by k_ne, by k_ne⟩ ⟨hx, ?i1, ?i2, ?i3, W.mono hZx, (fun _ h => nomatch h), ?kp, hs2, trivial, hs3, trivial, c, (fun _ h => nomatch h), List.nodup_nil, (fun _ h => nomatch h), Nat.le_refl _, Nat.le_refl _⟩ (.head _) (.tail _ (.head _)) (by omega) hnd ⟨lo2, lo3⟩ hd hu hP ?done
  case sN => k_extra "SUB"
  case i1 => exact Offs.mem (by walk_at "OFFS")
  case i2 => exact Offs.mem (by walk_at "OFFS")
  case i3 => exact Offs.mem (by walk_at "OFFS")
  case kp => exact Keep.cons (by k_mem) (W.not_in zZv) (Keep.cons (by k_mem) (W.not_in zZr) (Keep.cons (by k_mem) (W.not_in zI) (Keep.cons (by k_mem) (W.not_in zrL) (K.up hZx))))
  case done =>
    intro m1 h1 tk1 otd ovl owd x y t1 t2 nl o2 o3 kv2 kv3 Z3 Nw rows3 rn3 as e hS F1 N1
    try k_fold
    subst e
    clear F3 N3
    have hxy := hS.xy
    have q1 := hS.ol
    have q2 := hS.o2'
    have q3 := hS.o3'
    have l12 : @Ne Nat d2 l := by k_ne
    have l13 : @Ne Nat d3 l := by k_ne
    have l23 : @Ne Nat d2 d3 := by k_ne
    have hal := hS.len
    have mt1 := hS.W.T.h1
    have mt2 := hS.W.T.h2
    have hI3 := hS.keep (I, it) (List.mem_append_right _ (.tail _ (.tail _ (.head _))))
    have hr3 := hS.keep (rL, lst rv rLn) (List.mem_append_right _ (.tail _ (.tail _ (.tail _ (.head _)))))
    have hri3 := hS.keep (ri, lst [.int nd tn, .str nm tm, .ref d2, .ref d3, va] 0) (List.mem_append_right _ (.tail _ (.head _)))
    have hKp : ∀ (x y : Int) (t1 t2 : Tok) (n : Nat), Keep t td rl rows3 ((I, it) :: (l, src x y t1 t2 n) :: (rL, lst rv rLn) :: (rL, lst rv rLn) :: (ri, lst [.int nd tn, .str nm tm, .ref d2, .ref d3, va] 0) :: (d2, o2) :: (d3, o3) :: (Nw ++ O)) ((l, src x y t1 t2 n) :: (d2, o2) :: (d3, o3) :: Z3) := fun x y t1 t2 n =>
      Keep.cons (.tail _ (.tail _ (.tail _ hI3.1))) hI3.2 (Keep.cons (.head _) (hS.W.not_in q1) (Keep.cons (.tail _ (.tail _ (.tail _ hr3.1))) hr3.2 (Keep.cons (.tail _ (.tail _ (.tail _ hr3.1))) hr3.2 (Keep.cons (.tail _ (.tail _ (.tail _ hri3.1))) hri3.2 (Keep.cons (.tail _ (.head _)) (hS.W.not_in q2) (Keep.cons (.tail _ (.tail _ (.head _))) (hS.W.not_in q3)
        fun p hp => by
          have := hS.keep p (by
            rcases List.mem_append.mp hp with hp | hp
            · exact List.mem_append_left _ hp
            · exact List.mem_append_right _ (.tail _ (.tail _ (.tail _ (.tail _ hp)))))
          exact ⟨.tail _ (.tail _ (.tail _ this.1)), this.2⟩))))))
    have hof : ∀ p ∈ (ri, lst [.int nd tn, .str nm tm, .ref d2, .ref d3, va] 0) :: (d2, o2) :: (d3, o3) :: (Nw ++ O), p.1 ≠ I ∧ p.1 ≠ l ∧ p.1 ≠ rL ∧ p.1 ≠ rL := fun p hp => by
      rcases List.mem_cons.mp hp with rfl | hp
      · exact ⟨by k_ne, by k_ne, by k_ne, by k_ne⟩
      rcases List.mem_cons.mp hp with rfl | hp
      · exact ⟨by k_ne, by k_ne, by k_ne, by k_ne⟩
      rcases List.mem_cons.mp hp with rfl | hp
      · exact ⟨by k_ne, by k_ne, by k_ne, by k_ne⟩
      rcases List.mem_append.mp hp with hp | hp
      · have e1 := hS.fr p hp (I, it) (.tail _ (.tail _ (.head _)))
        have e2 := hS.fr p hp (rL, lst rv rLn) (.tail _ (.tail _ (.tail _ (.head _))))
        exact ⟨fun e => e1 e.symm, q1 p (hS.keep p (List.mem_append_left _ hp)).1, fun e => e2 e.symm, fun e => e2 e.symm⟩
      · have := hoff p (K p hp).1
        exact ⟨this.1, this.2.1, this.2.2, this.2.2⟩
    have hrow : RowIs w ((ri, lst [.int nd tn, .str nm tm, .ref d2, .ref d3, va] 0) :: (d2, o2) :: (d3, o3) :: Nw) (.ref ri) ⟨nd, nm, as, ab⟩ := ⟨ri, 0, d2, d3, o2, o3, kv2, kv3, tn, tm, va, rfl, .head _, hab, .tail _ (.head _), .tail _ (.tail _ (.head _)), ⟨lo2, lo3⟩, hS.i2, hS.a2.mono fun _ _ q => ⟨q.1, q.2.mono fun p hp => .tail _ (.tail _ (.tail _ hp))⟩, hS.i3, hS.a3⟩
    refine E1_5 (hS.cur.at_) ?_; intro R1 hR1 kd1 hz3 kk1 hz4; clear hz3; clear hz4
    have hkl : R1.kv.length = 0 := kk1.length
    k_steps
    · refine goOn ?_
      refine' addtext_t w (O := (I, it) :: (l, src x' y' t1 t2 n') :: (rL, lst rv rLn) :: (rL, lst rv rLn) :: (ri, lst [.int nd tn, .str nm tm, .ref d2, .ref d3, va] 0) :: (d2, o2) :: (d3, o3) :: (Nw ++ O)) (R := R1) ?C (hS.W.mono fun p hp => .tail _ (.tail _ (.tail _ hp))) (hKp _ _ _ _ _) (by omega) ?hR (.inr kd1) (by omega) (by omega) ?hd ?hu ?_
      case C => k_extra "CXC"
      case hR => rw [Int.toNat_natCast]; exact hR1
      case hd => ktr_room
      case hu => ktr_units
      intro all' S rn' tn' kn' h3 tk3 hSn W' K3 F4 N4
      try k_fold
      rw [Int.toNat_natCast] at W' K3
      refine E1_7 (strip4 W' K3 hof N4) ?_; intro Z5 W5 K5 N5 z0 z1 z2 _
      replace N5 := news_sub N5 (b := (I, it) :: (l, src x' y' t1 t2 n') :: (rL, lst rv rLn) :: Z5) (by k_extra "SUB")
      clear N4
      k_steps
      refine goOn ?_
      refine wpAny_execs_cons ?_
      k_steps
      rename News _ _ _ _ => N6
      rename Fr g₀ _ _ _ => F6
      exact fin _ _ _ _ _ _ x' y' _ _ _ _ Z5 _ _ rn' as _ _ hx' (fun p hp => ⟨z0 p hp, z1 p hp, z2 p hp⟩) W5 K5 hrow (hS.cur.text hR1 hSn.1) (Nat.le_refl _) (by rw [op_len]; omega) hS.ats F6 N6
    · refine goOn ?_
      refine E1_7 (strip4 (hS.W.mono fun p hp => .tail _ (.tail _ (.tail _ hp))) (hKp _ _ _ _ _) hof N') ?_; intro Z5 W5 K5 N5 z0 z1 z2 _
      replace N5 := news_sub N5 (b := (I, it) :: (l, src x' y' _ _ n') :: (rL, lst rv rLn) :: Z5) (by k_extra "SUB")
      clear N'
      refine wpAny_execs_cons ?_
      k_steps
      rename News _ _ _ _ => N6
      rename Fr g₀ _ _ _ => F6
      exact fin _ _ _ _ _ _ x' y' _ _ _ _ Z5 _ _ rn3 as _ _ hx' (fun p hp => ⟨z0 p hp, z1 p hp, z2 p hp⟩) W5 K5 hrow hS.cur (Nat.zero_le _) (by omega) hS.ats F6 N6
end

-- part p28_outer.lean
section
open PySem.Calls PyProof.V PySem.Spec
local macro_rules | `(tactic| walk_at "call ref") => `(tactic| k_extra "W13")

structure OutS (w : World) (l rL t td rl : Addr) (tk : Tok) (fix : List (Addr × Obj)) (i : Nat) (x y : Int) (rv : List Value) (Z O : List (Addr × Obj)) (rows : List NR) (rn : Nat) (lrs : List LR) : Prop where
  xy : 0 ≤ x ∧ 0 ≤ y ∧ y < 2147483647
  ol : ∀ p ∈ Z, p.1 ≠ l
  orL : ∀ p ∈ Z, p.1 ≠ rL
  W : TW w.params Z t td rl rn tk rows
  sub : ∀ p ∈ fix, p ∈ O
  keep : Keep t td rl rows O Z
  rs : All2 (RowIs w O) rv lrs
  bld : Bld rows lrs
  len : lrs.length = i
def outJ (w : World) (l rL t td rl : Addr) (tk tr : Tok) (fix : List (Addr × Obj)) : Jt := fun i m n => ∃ oat oab onm ond orw otd ovl owd x y t1 t2 nl rv rLn Z O rows rn lrs,
  m = drM (.ref l) (.ref t) (.ref rL) (.int 0 tr) oat oab onm ond orw otd ovl owd ∧ n = (l, src x y t1 t2 nl) :: (rL, lst rv rLn) :: Z ∧ OutS w l rL t td rl tk fix i x y rv Z O rows rn lrs
variable (w : World) {dp un : Nat} {gd : Option (List Code)} {env : Env} {outer : List Env} {g₀ base : Heap} {mean : ExcName → Option Value} {mg mb : Str → Option Value} {L' : Addr} {s : Shared} {E : Value → Shared → Prop} {Q : Flow → Shared → Prop}
    {t td rl : Addr} {rn : Nat} {tk : Tok} {rows : List NR}
theorem words43 : True := by
  k_with "W51" => (k_here; (try dsimp only); k_dflt (first | (refine' take_t _ ?C ?U ?hx ?ht ?ht' ?hd ?hu ?_; (case C => k_extra "CXC"); (case U => k_updF); (case hx => k_asm); (case ht => omega); (case ht' => omega); (case hd => ktr_room); (case hu => ktr_units); k_whole; (intro d x' y' t1 t2 t3 n' h' tk' hx' hd0 hd1 F' N'); (try dsimp only at N'); (try dsimp only)) | (refine' one_t _ ?C ?hm ?U ?hg ?hx ?ht ?ht' ?hd ?hu ?_; (case C => k_extra "CXC"); (case hm => k_mem); (case U => k_updF); (case hg => (intro o; k_mem)); (case hx => k_asm); (case ht => (simp; done)); (case ht' => (simp; done)); (case hd => ktr_room); (case hu => ktr_units); k_whole; (intro v x' y' t1 t2 n' h' tk' hx' hv F' N'); (try dsimp only at N'); (try dsimp only)) | ((with_reducible show wpAny _ _ (call (Value.ref 309) _) _ _ _); refine stopAt ?_)))
  k_with "W52" => ((with_reducible show wpAny _ _ (execs (Stmt.Assign [Expr.Name (Str.ofString "row") _] _ _ :: _) _) _ _ _); refine stopAt ?_)
  k_with "W53" => ((with_reducible show wpAny _ _ (subscriptTail _ _ (Value.ref _) (Value.int _ _)) _ _ _); refine stopAt ?_)
  trivial
local macro_rules | `(tactic| walk_at "call ref") => `(tactic| k_extra "W51")
local macro_rules | `(tactic| walk_at "execs cons") => `(tactic| k_extra "W52")
local macro_rules | `(tactic| walk_at "subscriptTail Name Name ref int") => `(tactic| k_extra "W53")

theorem Cur.init {rows : List NR} {k : Nat} {R R' S : NR} {nm ur lo va : Str} {pv : Value} (hR : rows[k]? = some R) (h : NR.New S (st "element") nm ur lo va pv) : Cur ((rows ++ [S]).set k R') ((rows ++ [S]).set k R') rows.length nm [] [] := by
  refine E0_8 (h) ?_; (try clear h); intro s1 s2 s3 s4 s5 s6 s7 s8
  exact ⟨Ext.refl _, fun _ _ _ => rfl, ⟨S, op_new hR, s1, s2, by rw [s7]; exact .nil, by rw [s8]; exact trivial⟩, (fun _ h => nomatch h), Nat.le_refl _⟩
theorem ab_mem {v : Value} {t1 t2 t3 : Tok} (h : v ∈ [Value.str (st "a") t1, .str (st "a") t2, .str (st "b") t3]) : ∃ x t, v = .str x t ∧ (x = st "a" ∨ x = st "b") := by
  simp only [List.mem_cons, List.not_mem_nil, or_false] at h
  rcases h with e | e | e
  · exact ⟨_, _, e, .inl rfl⟩
  · exact ⟨_, _, e, .inl rfl⟩
  · exact ⟨_, _, e, .inr rfl⟩
theorem OutS.next {w : World} {l rL t td rl : Addr} {tk : Tok} {fix : List (Addr × Obj)} {i : Nat} {x y x' y' : Int} {rv : List Value} {Z O Z' O' : List (Addr × Obj)} {rows rows' : List NR} {rn rn' : Nat} {lrs : List LR} (h : OutS w l rL t td rl tk fix i x y rv Z O rows rn lrs)
    {k : Nat} {R S : NR} {tn : Tok} {kn : Nat} {ab : Option Nat} {nm : Str} {as : List AI} {kt : List Int} {v : Value} (hp : ParOk lrs k ab) (hR : rows[k]? = some R)
    (c : Cur ((rows ++ [S]).set k { R with kv := R.kv ++ [.int rows.length tn], kn := kn }) rows' rows.length nm as kt) (htx : kt.length ≤ 1) (hlen : rows'.length ≤ ((rows ++ [S]).set k { R with kv := R.kv ++ [.int rows.length tn], kn := kn }).length + 4) (hnm : nm = st "a" ∨ nm = st "b") (hats : AtsOk as)
    (xy : 0 ≤ x' ∧ 0 ≤ y' ∧ y' < 2147483647) (ol : ∀ p ∈ Z', p.1 ≠ l) (orL : ∀ p ∈ Z', p.1 ≠ rL) (W : TW w.params Z' t td rl rn' tk rows') (K : Keep t td rl rows' (O' ++ O) Z') (hrow : RowIs w O' v ⟨rows.length, nm, as, ab⟩) :
    OutS w l rL t td rl tk fix (i + 1) x' y' (rv ++ [v]) Z' (O' ++ O) rows' rn' (lrs ++ [⟨rows.length, nm, as, ab⟩]) :=
  ⟨xy, ol, orL, W, fun p hp => List.mem_append_right _ (h.sub p hp), K, All2.append (h.rs.mono fun _ _ q => q.mono fun p hp => List.mem_append_right _ hp) ⟨hrow.mono fun p hp => List.mem_append_left _ hp, trivial⟩,
    h.bld.step hp hR c htx (by rw [op_len] at hlen; omega) hnm hats, by rw [List.length_append, List.length_singleton, h.len]⟩
local macro_rules | `(tactic| walk_at "PAD") => `(tactic| fail)
theorem drawn_outer {r l rL : Addr} {b₀ : Int} {q1 q2 q3 tr tx ty : Tok} {n nl rLn : Nat} {x y : Int} {O Z : List (Addr × Obj)} {oat oab onm ond orw otd ovl owd : Option Value}
    (B : Below (aT dp un gd env outer) base (env :: outer) g₀) (X : (KF w.params).In g₀) (T : Top q (looseW q loose) mean mg mb g₀)
    (F : Fr g₀ (dE L').locals s.heap (drM (.ref l) (.ref t) (.ref rL) (.int 0 tr) oat oab onm ond orw otd ovl owd)) (N : News g₀ (dE L').locals s.heap ((l, src x y tx ty nl) :: (rL, lst [] rLn) :: Z))
    (hr : IsRange s.heap r 0 b₀ 1 q1 q2 q3) (hn : b₀ = (n : Int)) (hz : n ≤ 6) (hlr : @Ne Nat l rL) (hS : OutS w l rL t td rl tk O 0 x y [] Z O rows rn [])
    (hd : dp + 9 < recursionLimit) (hu : un + 150 < cLine) (hP : PassesOwn (model prg w) ((aT dp un gd env outer).deeper (dE L')) (dE L') E)
    (done : ∀ h' tk' oat oab onm ond orw otd ovl owd x y t1 t2 nl rv rLn Z O' rows rn lrs, OutS w l rL t td rl tk O n x y rv Z O' rows rn lrs → Fr g₀ (dE L').locals h' (drM (.ref l) (.ref t) (.ref rL) (.int 0 tr) oat oab onm ond orw otd ovl owd) → News g₀ (dE L').locals h' ((l, src x y t1 t2 nl) :: (rL, lst rv rLn) :: Z) → Q .next { s with heap := h', toks := tk' }) :
    wpAny (model prg w) ((aT dp un gd env outer).deeper (dE L')) (pyIter (.ref r)) (fun it s₂ => LoopAtV prg w ((aT dp un gd env outer).deeper (dE L')) g₀ (dE L') (st "at") dB Q E it s₂) E s := by
  k_extra "FILL"
  have hlr := neN hlr
  refine for_range_J (outJ w l rL t td rl tk tr O) rfl hr hn (by omega) F N ⟨oat, oab, onm, ond, orw, otd, ovl, owd, x, y, tx, ty, nl, [], rLn, Z, O, rows, rn, [], rfl, rfl, hS⟩ (goOn ?_) (goOn ?_)
  · intro I i ti m₁ news₁ it h tk1 hi hlt hoff hJ F1 N1
    try k_fold
    refine E20_3 (hJ) ?_; (try clear hJ); intro oat oab onm ond orw otd ovl owd x y t1 t2 nl rv rLn Z O' rows rn lrs hq5 hq6 hS; obtain rfl := hq5; obtain rfl := hq6
    have hxy := hS.xy
    have ol := hS.ol
    have orL := hS.orL
    have hIl := neN fun e => hoff (l, src x y t1 t2 nl) (.head _) (Eq.symm e)
    have hIr := neN fun e => hoff (rL, lst rv rLn) (.tail _ (.head _)) (Eq.symm e)
    have hIZ : ∀ p ∈ Z, p.1 ≠ I := fun p hp => hoff p (.tail _ (.tail _ hp))
    have mt1 := hS.W.T.h1
    have mt2 := hS.W.T.h2
    replace F1 := Fr.of_eq (m' := drM (.ref l) (.ref t) (.ref rL) (.int 0 tr) (some (.int i ti)) oab onm ond orw otd ovl owd) (by k_extra "MAP") F1
    with_unfolding_all change wpAny _ _ (execs (_ :: _ :: _ :: _ :: _ :: _ :: _ :: []) _) _ _ _
    have hll := hS.len
    have hrl := hS.bld.len
    have hrv := hS.rs.length
    have hnI := hS.W.not_in hIZ
    have hnl := hS.W.not_in ol
    have hnr := hS.W.not_in orL
    have hof : ∀ p ∈ O', p.1 ≠ I ∧ p.1 ≠ l ∧ p.1 ≠ rL ∧ p.1 ≠ rL := fun p hp => ⟨hIZ p (hS.keep p hp).1, ol p (hS.keep p hp).1, orL p (hS.keep p hp).1, orL p (hS.keep p hp).1⟩
    k_steps
    · refine goOn ?_
      rename (i : Int) = 0 => hi0
      have hl0 : lrs = [] := List.length_eq_zero_iff.mp (by omega)
      refine E2_2 (ab_mem hv) ?_; intro nm tm hq7 hnm; obtain rfl := hq7
      refine E1_3 (hS.bld.root) ?_; intro R0 hR0 hk0 hkv0
      have hkl := hkv0.length
      have hkl2 := kidsOf_len lrs none
      rename News _ _ _ _ => N3
      refine' addelement_t w (O := (I, it) :: (l, src x' y' t1 t2 n') :: (rL, lst rv rLn) :: (rL, lst rv rLn) :: O') (R := R0) ?C ?W ?K (by omega) hR0 (.inl hk0) (by omega) (by omega) ?hd ?hu ?_
      case C => k_extra "CXC"
      case W => exact hS.W.mono fun p hp => .tail _ (.tail _ (.tail _ (.tail _ hp)))
      case K => exact Keep.cons (by k_mem) hnI (Keep.cons (by k_mem) hnl (Keep.cons (by k_mem) hnr (Keep.cons (by k_mem) hnr (hS.keep.up fun p hp => .tail _ (.tail _ (.tail _ (.tail _ hp)))))))
      case hd => ktr_room
      case hu => ktr_units
      intro all' S rn' tn' kn' h3 tk3 hSn W' K3 F4 N4
      try k_fold
      replace W' := W'
      refine E1_7 (strip4 W' K3 hof N4) ?_; intro Z5 W5 K5 N5 z0 z1 z2 _
      replace N5 := news_sub N5 (b := (I, it) :: (l, src x' y' t1 t2 n') :: (rL, lst rv rLn) :: Z5) (by k_extra "SUB")
      clear N4 N3
      k_steps
      refine goOn ?_
      rename News _ _ _ _ => N6
      rename Fr g₀ _ _ _ => F6
      refine' drawn_rest w (ab := none) B X T (Fr.of_eq ?mp F6) N6 ⟨hIl, hIr, hlr⟩ (fun p hp => ⟨z0 p hp, z1 p hp, z2 p hp⟩) W5 K5 rfl hx' (Cur.init hR0 hSn) (by rw [op_len]; omega) (by rw [op_len]; omega) (by omega) hd hu hP ?fin
      case mp => k_extra "MAP"
      case fin =>
        intro h7 tk7 orw otd ovl owd x7 y7 t71 t72 nl7 rLn7 Z7 O7 rows7 rn7 as kt v hxy7 hof7 W7 K7 hrow c7 hkt hl7 hat F7 N7
        try k_fold
        refine JPost.fin ((l, src x7 y7 t71 t72 nl7) :: (rL, lst (rv ++ [v]) rLn7) :: Z7) F7 N7 (fun p hp => hp) (fun p hp => ?_) ⟨_, _, _, _, _, _, _, _, x7, y7, t71, t72, nl7, _, rLn7, Z7, _, rows7, rn7, _, rfl, rfl, hS.next (k := 0) (ab := none) ⟨rfl, hl0⟩ hR0 c7 hkt hl7 hnm hat hxy7 (fun p hp => (hof7 p hp).2.1) (fun p hp => (hof7 p hp).2.2) W7 K7 hrow⟩
        rcases List.mem_cons.mp hp with rfl | hp
        · exact Ne.symm hIl
        rcases List.mem_cons.mp hp with rfl | hp
        · exact Ne.symm hIr
        · exact (hof7 p hp).1
    · refine goOn ?_
      rename News _ _ _ _ => N3
      obtain ⟨dn, rfl⟩ := Int.eq_ofNat_of_zero_le hd0
      have hdl : dn < rv.length := by omega
      refine E1_2 (hS.rs.get (List.getElem?_eq_getElem hdl)) ?_; intro lra hla hr8; refine E11_3 (hr8) ?_; (try clear hr8); intro ri nr d2 d3 o2 o3 kv2 kv3 tn9 tm9 va9 hve hrm hz9; clear hz9
      have hv9 : rv[((dn : Int)).toNat]? = some (.ref ri) := by rw [Int.toNat_natCast, List.getElem?_eq_getElem hdl, hve]
      have hrm := (hS.keep _ hrm).1
      walk_at "subscriptTail"
      k_steps
      refine goOn ?_
      refine E2_2 (ab_mem hv) ?_; intro nm tm hq0 hnm; obtain rfl := hq0
      refine E1_2 (hS.bld.els dn lra hla) ?_; intro txa hz1 hr2; clear hz1; refine E0_2 (hr2) ?_; (try clear hr2); intro htl hr3; refine E1_5 (hr3) ?_; (try clear hr3); intro R0 hR0 hk0 hz4 hkv0 hz5; clear hz4; clear hz5
      have hkl := hkv0.length
      have hkl2 := kidsOf_len lrs (some dn)
      have hR0' : rows[((lra.node : Nat) : Int).toNat]? = some R0 := by rw [Int.toNat_natCast]; exact hR0
      rw [List.length_append] at hkl
      rename News _ _ _ _ => N3
      refine' addelement_t w (O := (I, it) :: (l, src x' y' t1 t2 n') :: (rL, lst rv rLn) :: (rL, lst rv rLn) :: O') (R := R0) ?C ?W ?K (by omega) hR0' (.inr hk0) (by omega) (by omega) ?hd ?hu ?_
      case C => k_extra "CXC"
      case W => exact hS.W.mono fun p hp => .tail _ (.tail _ (.tail _ (.tail _ hp)))
      case K => exact Keep.cons (by k_mem) hnI (Keep.cons (by k_mem) hnl (Keep.cons (by k_mem) hnr (Keep.cons (by k_mem) hnr (hS.keep.up fun p hp => .tail _ (.tail _ (.tail _ (.tail _ hp)))))))
      case hd => ktr_room
      case hu => ktr_units
      intro all' S rn' tn' kn' h3 tk3 hSn W' K3 F4 N4
      try k_fold
      rw [Int.toNat_natCast] at W' K3
      refine E1_7 (strip4 W' K3 hof N4) ?_; intro Z5 W5 K5 N5 z0 z1 z2 _
      replace N5 := news_sub N5 (b := (I, it) :: (l, src x' y' t1 t2 n') :: (rL, lst rv rLn) :: Z5) (by k_extra "SUB")
      clear N4 N3
      k_steps
      refine goOn ?_
      rename News _ _ _ _ => N6
      rename Fr g₀ _ _ _ => F6
      refine' drawn_rest w (ab := some dn) (va := .int dn t3) B X T (Fr.of_eq ?mp F6) N6 ⟨hIl, hIr, hlr⟩ (fun p hp => ⟨z0 p hp, z1 p hp, z2 p hp⟩) W5 K5 ⟨t3, rfl⟩ hx' (Cur.init hR0 hSn) (by rw [op_len]; omega) (by rw [op_len]; omega) (by omega) hd hu hP ?fin
      case mp => k_extra "MAP"
      case fin =>
        intro h7 tk7 orw otd ovl owd x7 y7 t71 t72 nl7 rLn7 Z7 O7 rows7 rn7 as kt v hxy7 hof7 W7 K7 hrow c7 hkt hl7 hat F7 N7
        try k_fold
        refine JPost.fin ((l, src x7 y7 t71 t72 nl7) :: (rL, lst (rv ++ [v]) rLn7) :: Z7) F7 N7 (fun p hp => hp) (fun p hp => ?_) ⟨_, _, _, _, _, _, _, _, x7, y7, t71, t72, nl7, _, rLn7, Z7, _, rows7, rn7, _, rfl, rfl, hS.next (k := lra.node) (ab := some dn) ⟨lra, hla, rfl⟩ hR0 c7 hkt hl7 hnm hat hxy7 (fun p hp => (hof7 p hp).2.1) (fun p hp => (hof7 p hp).2.2) W7 K7 hrow⟩
        rcases List.mem_cons.mp hp with rfl | hp
        · exact Ne.symm hIl
        rcases List.mem_cons.mp hp with rfl | hp
        · exact Ne.symm hIr
        · exact (hof7 p hp).1
  · intro m₁ news₁ h tk1 hJ F1 N1
    try k_fold
    refine E20_3 (hJ) ?_; (try clear hJ); intro oat oab onm ond orw otd ovl owd x y t1 t2 nl rv rLn Z O' rows rn lrs hq6 hq7 hS; obtain rfl := hq6; obtain rfl := hq7
    exact done h tk1 oat oab onm ond orw otd ovl owd x y t1 t2 nl rv rLn Z O' rows rn lrs hS F1 N1
end

-- part p29_drawn.lean
section
open PySem.Calls PyProof.V PySem.Spec
local macro_rules | `(tactic| walk_at "call ref") => `(tactic| k_extra "W13")

variable (w : World) {dp un : Nat} {gd : Option (List Code)} {env : Env} {outer : List Env} {h₀ : Heap} {L : Addr} {m : Str → Option Value} {s : Shared} {Q E : Value → Shared → Prop} {news : List (Addr × Obj)}
theorem words45 : True := by
  k_with "W54" => (k_here; (try dsimp only); k_dflt (first | (refine' tree_t _ ?C ?hd ?hu ?_; (case C => k_extra "CXC"); (case hd => ktr_room); (case hu => ktr_units); k_whole; (intro tA tdA rlA tkA h' tk' l1 l2 l3 F' N'); (try k_lt l1); (try dsimp only)) | (refine' take_t _ ?C ?U ?hx ?ht ?ht' ?hd ?hu ?_; (case C => k_extra "CXC"); (case U => k_updF); (case hx => k_asm); (case ht => omega); (case ht' => omega); (case hd => ktr_room); (case hu => ktr_units); k_whole; (intro d x' y' t1 t2 t3 n' h' tk' hx' hd0 hd1 F' N'); (try dsimp only at N'); (try dsimp only)) | ((with_reducible show wpAny _ _ (call (Value.ref 295) _) _ _ _); refine stopAt ?_)))
  trivial
local macro_rules | `(tactic| walk_at "call ref") => `(tactic| k_extra "W54")
local macro_rules | `(tactic| walk_at "call type:range") => `(tactic| (k_here; (rename Fr _ _ _ _ => lF'); (rename News _ _ _ _ => lN'); (with_unfolding_all refine range1_rows lF' lN' ?_); intro _ _ _ _ _ _ _ _ _))

theorem Bld.init {S : NR} {nm ur lo va : Str} {pv : Value} (h : NR.New S (st "root") nm ur lo va pv) : Bld ([] ++ [S]) [] := by
  refine E0_8 (h) ?_; (try clear h); intro s1 s2 s3 s4 s5 s6 s7 s8
  exact ⟨⟨S, rfl, s1, by rw [s7]; exact .nil⟩, (fun i lr e => by simp at e), (fun _ h => nomatch h), List.nodup_nil, (fun i lr e => by simp at e), Nat.le_refl _, (fun _ h => nomatch h), fun _ h => nomatch h⟩
theorem drawn_t {l : Addr} {x y : Int} {tx ty : Tok} {n : Nat} (C : Cx w outer h₀ L env m s.heap ((l, src x y tx ty n) :: news)) (hl : ∀ p ∈ news, p.1 ≠ l)
    (hx : 0 ≤ x ∧ 0 ≤ y ∧ y < 2147483647)
    (hd : dp + 10 < recursionLimit) (hu : un + 160 < cLine)
    (ret : ∀ (lv t td rl rL : Addr) (tk tr : Tok) k rn x y t1 t2 nl rv rLn Z O rows lrs n1 h' tk', OutS w l rL t td rl tk news k x y rv Z O rows rn lrs → 1 ≤ k ∧ k ≤ 6 → @Ne Nat l rL → (@LT.lt Nat _ l lv ∧ @LT.lt Nat _ rL lv ∧ ∀ p ∈ Z, p.1 < lv) → Fr h₀ L h' m →
      News h₀ L h' ((lv, lst [.ref t, .int 0 tr, .ref rL] n1) :: (l, src x y t1 t2 nl) :: (rL, lst rv rLn) :: Z) → Q (.ref lv) { s with heap := h', toks := tk' }) :
    wpAny (model prg w) (aT dp un gd env outer) (call (.ref 489) [.ref l]) Q E s := by
  refine C.elim ?_; intro A₀ base mean mg mb B T F N X hf hk
  k_extra "FILL"
  k_extra "ENTER"
  replace F' := Fr.of_eq (mk_binds [(Str.ofString "source", .ref l)]) F'
  k_steps
  refine goOn ?_
  rename News _ _ _ _ => N3
  rename Fr g' _ _ _ => F3
  rename_i rL _ a1 a2 a3 a4 zr D _ b1 b2 b3 b4 b5 zD _ _ _
  have zr := allLt_out zr
  have hlA := allLt_out l1
  have hlr : @Ne Nat l rL := by k_ne
  have hW : TW w.params ((D, { cls := .type "tuple", data := .seq #[.ref tA, .ref rL] }) :: (rL, lst [] 0) :: (rlA, lst [] 0) :: (tA, instObj 445 tdA) :: (tdA, dictOf [ent w.params "rows" tkA (.ref rlA)] 1) :: (l, src x y tx ty n) :: news) tA tdA rlA 0 tkA [] := by
    refine ⟨⟨by k_mem, by k_mem, by k_mem, (fun _ h => nomatch h), Nat.zero_le _, (fun _ h => nomatch h)⟩, ?_⟩
    simp only [ta, List.flatMap_nil, List.nodup_cons, List.mem_cons, List.not_mem_nil, or_false, not_or, not_false_eq_true, List.nodup_nil, and_true]
    refine ⟨⟨?_, ?_⟩, ?_⟩ <;> k_ne
  have hnt : ∀ a : Addr, @LT.lt Nat _ a tdA ∨ @LT.lt Nat _ rlA a → a ∉ ta tA tdA rlA [] := fun a h hm => by
    simp only [ta, List.flatMap_nil, List.mem_cons, List.not_mem_nil, or_false] at hm
    rcases hm with rfl | rfl | rfl <;> omega
  refine' newroot_t w (O := (l, src x y tx ty n) :: (l, src x y tx ty n) :: (rL, lst [] 0) :: (rL, lst [] 0) :: news) ?C hW ?K (Nat.zero_lt_succ _) ?hd ?hu ?_
  case C => k_extra "CXC"
  case K => exact Keep.cons (by k_mem) (hnt _ (.inl (by omega))) (Keep.cons (by k_mem) (hnt _ (.inl (by omega))) (Keep.cons (by k_mem) (hnt _ (.inr (by omega))) (Keep.cons (by k_mem) (hnt _ (.inr (by omega))) fun p hp => ⟨by k_extra "INTAIL", hnt _ (.inl (hlA p hp))⟩)))
  case hd => ktr_room
  case hu => ktr_units
  intro all' S rn' tn' h3 tk3 hSn W' K3 F4 N4
  try k_fold
  refine E1_7 (strip4 W' K3 (fun p hp => ⟨hl p hp, hl p hp, Nat.ne_of_lt (zr p hp), Nat.ne_of_lt (zr p hp)⟩) N4) ?_; intro Z5 W5 K5 N5 _ z1 z2 _
  replace N5 := news_sub N5 (b := (l, src x y tx ty n) :: (rL, lst [] 0) :: Z5) (by k_extra "SUB")
  clear N4 N3
  have mt1 := W5.T.h1
  have mt2 := W5.T.h2
  k_steps
  refine goOn ?_
  rename IsRange _ _ _ _ _ _ _ _ => rg
  rename News _ _ _ _ => N6
  rename Fr g' _ _ _ => F6
  replace F6 := Fr.of_eq (L := (dE L').locals) (m' := drM (.ref l) (.ref tA) (.ref rL) (.int 0 tn') none none none none none none none none) (by k_extra "MAP") F6
  refine' drawn_outer w (n := (1 + d).toNat) (O := news) B' X' T' F6 (news_sub (L := (dE L').locals) N6 fun _ h => h) rg (by omega) (by omega) hlr ⟨hx', z1, z2, W5, fun _ h => h, K5, trivial, Bld.init hSn, rfl⟩ (by omega) (by omega) ?hP ?done
  case hP => passes_own
  case done =>
    intro h7 tk7 oat oab onm ond orw otd ovl owd x7 y7 t71 t72 nl7 rv7 rLn7 Z7 O7 rows7 rn7 lrs7 hS7 F7 N7
    try k_fold
    clear N6
    k_steps
    rename News h₀ _ _ _ => N8
    rename Fr h₀ _ _ _ => F8
    refine' ret _ tA tdA rlA rL tkA tn' _ rn7 x7 y7 t71 t72 nl7 rv7 rLn7 Z7 O7 rows7 lrs7 _ _ _ hS7 ⟨by omega, by omega⟩ hlr ⟨by omega, by omega, ?lt⟩ F8 N8
    case lt => first | assumption | exact allLt_out (by assumption)
end

-- part p30_order.lean
section
open PySem.Calls PyProof.V PySem.Spec
local macro_rules | `(tactic| walk_at "call ref") => `(tactic| k_extra "W13")

theorem add_L {w : World} {A : Around} {E : Value → Shared → Prop} {s : Shared} {h₀ : Heap} {L a b : Addr} {m : Str → Option Value} {news : List (Addr × Obj)} {xs ys : List Value} {i j : Nat} {Q : Value → Shared → Prop} (F : Fr h₀ L s.heap m) (N : News h₀ L s.heap news) (ha : (a, lst xs i) ∈ news) (hb : (b, lst ys j) ∈ news) (z1 : xs.length ≤ 1000) (z2 : ys.length ≤ 1000)
    (h : ∀ D h', (∀ p ∈ news, p.1 < D) → Fr h₀ L h' m → News h₀ L h' ((D, lst (xs ++ ys) 0) :: news) → Q (.ref D) { s with heap := h' }) : wpAny (model prg w) A (binaryOp .Add (.ref a) (.ref b)) Q E s :=
  add_lists F N (isList_mem N ha) (isList_mem N hb) (fun h' F' N' => h _ h' (fun p hp => Heap.lt_size (N p hp).1) F' N') (by rw [sizeLine_eq]; omega)

theorem words47 : True := by
  k_with "W55" => (k_here; (with_reducible show wpAny _ _ (binaryOp _ (Value.ref _) (Value.ref _)) _ _ _); k_dflt (refine' add_L ?Fw9 ?Nw9 ?aw9 ?bw9 ?iw9 ?jw9 ?_; (case Fw9 => k_asm); (case Nw9 => k_asm); (case aw9 => k_mem); (case bw9 => k_mem); (case iw9 => k_extra "SIZE"); (case jw9 => k_extra "SIZE")))
  trivial
local macro_rules | `(tactic| walk_at "binaryOp Add ref ref") => `(tactic| (k_extra "W55"; intro D' h' l1 F' N'; (try k_lt l1)))

theorem eq_ab {w : World} {A : Around} {E : Value → Shared → Prop} {s : Shared} {v u : Value} {a b : Option Nat} {Q : Value → Shared → Prop} (hv : AbIs v a) (hu : AbIs u b) (h : Q (.bool (decide (a = b))) s) : wpAny (model prg w) A (compareOp .Eq v u) Q E s := by
  cases a with
  | none =>
    have hv' : v = .none := hv
    subst hv'
    cases b with
    | none =>
      have hu' : u = .none := hu
      subst hu'
      exact EqNone.eq_none_none (by simpa using h)
    | some b =>
      obtain ⟨t, rfl⟩ := hu
      exact EqNone.eq_none_int (by simpa using h)
  | some a =>
    obtain ⟨t, rfl⟩ := hv
    cases b with
    | none =>
      have hu' : u = .none := hu
      subst hu'
      exact EqNone.eq_int_none (by simpa using h)
    | some b =>
      obtain ⟨t', rfl⟩ := hu
      refine PyProof.Rows.eq_int ?_
      have e : ((a : Int) == (b : Int)) = decide (some a = some b) := by
        by_cases q : a = b
        · subst q; simp
        · have q' : (a : Int) ≠ b := fun e => q (by omega)
          rw [show ((a : Int) == (b : Int)) = false from beq_eq_false_iff_ne.mpr q']
          exact (decide_eq_false fun e => q (Option.some.inj e)).symm
      rw [e]; exact h
def ordG (lrs : List LR) (rec : Nat → List Nat) (ab : Option Nat) (i : Nat) : List Nat := if lrs[i]?.map LR.above = some ab then i :: rec i else []
def ordF (lrs : List LR) : Nat → Option Nat → List Nat
  | 0, _ => []
  | f + 1, ab => (List.range lrs.length).flatMap (ordG lrs (fun i => ordF lrs f (some i)) ab)
def ordPre (lrs : List LR) (f : Nat) (ab : Option Nat) (i : Nat) : List Nat := (List.range i).flatMap (ordG lrs (fun i => ordF lrs f (some i)) ab)
theorem ordPre_step (lrs : List LR) (f : Nat) (ab : Option Nat) (i : Nat) : ordPre lrs f ab (i + 1) = ordPre lrs f ab i ++ ordG lrs (fun i => ordF lrs f (some i)) ab i := by
  unfold ordPre
  rw [List.range_succ, List.flatMap_append]
  simp
def Fuel (n f : Nat) : Option Nat → Prop
  | none => n + 1 ≤ f
  | some a => a < n ∧ n - a ≤ f
def AbOk (lrs : List LR) : Prop := ∀ i lr, lrs[i]? = some lr → (lr.above = none ↔ i = 0) ∧ ∀ a, lr.above = some a → a < i
theorem Fuel.down {lrs : List LR} (h : AbOk lrs) {f : Nat} {ab : Option Nat} (hf : Fuel lrs.length (f + 1) ab) {i : Nat} {lr : LR} (hi : lrs[i]? = some lr) (e : lr.above = ab) : Fuel lrs.length f (some i) := by
  have := lt_of_get hi
  refine ⟨this, ?_⟩
  cases ab with
  | none => have h2 : lrs.length + 1 ≤ f + 1 := hf; omega
  | some a => have h2 := (h i lr hi).2 a e; have h3 := hf.2; omega
theorem ordPre_nil {lrs : List LR} {f : Nat} {ab : Option Nat} {b : Nat} (hb : ∀ i lr, lrs[i]? = some lr → lr.above = ab → b ≤ i) : ∀ i, i ≤ b → ordPre lrs f ab i = []
  | 0, _ => rfl
  | i + 1, h => by
    rw [ordPre_step, ordPre_nil hb i (by omega), List.nil_append]
    unfold ordG
    rw [if_neg]
    intro e
    cases q : lrs[i]? with
    | none => rw [q] at e; cases e
    | some lr =>
      rw [q] at e
      have := hb i lr q (Option.some.inj e)
      omega
theorem ord_bound {lrs : List LR} (hab : AbOk lrs) : ∀ (f : Nat) (ab : Option Nat) (b : Nat), (∀ i lr, lrs[i]? = some lr → lr.above = ab → b ≤ i) → ∀ i, b ≤ i → i ≤ lrs.length → (ordPre lrs f ab i).length + 2 ^ (lrs.length - i) ≤ 2 ^ (lrs.length - b) := by
  intro f
  induction f with
  | zero =>
    intro ab b hb i
    induction i with
    | zero => intro h1 h2; have : b = 0 := by omega
              subst this; simp [ordPre]
    | succ i ih =>
      intro h1 h2
      by_cases e : b = i + 1
      · rw [ordPre_nil hb (i + 1) (by omega), e]; simp
      · have := ih (by omega) (by omega)
        rw [ordPre_step, List.length_append]
        have g : (ordG lrs (fun i => ordF lrs 0 (some i)) ab i).length ≤ 1 := by unfold ordG; split <;> simp [ordF]
        have p : 2 ^ (lrs.length - i) = 2 ^ (lrs.length - (i + 1)) + 2 ^ (lrs.length - (i + 1)) := by rw [show lrs.length - i = (lrs.length - (i + 1)) + 1 by omega, Nat.pow_succ]; omega
        have := Nat.one_le_two_pow (n := lrs.length - (i + 1))
        omega
  | succ f ihf =>
    intro ab b hb i
    induction i with
    | zero => intro h1 h2; have : b = 0 := by omega
              subst this; simp [ordPre]
    | succ i ih =>
      intro h1 h2
      by_cases e : b = i + 1
      · rw [ordPre_nil hb (i + 1) (by omega), e]; simp
      · have := ih (by omega) (by omega)
        rw [ordPre_step, List.length_append]
        have g : (ordG lrs (fun i => ordF lrs (f + 1) (some i)) ab i).length ≤ 2 ^ (lrs.length - (i + 1)) := by
          unfold ordG
          split
          · have q := ihf (some i) (i + 1) (fun j lr hj e => by have := (hab j lr hj).2 i e; omega) lrs.length h2 (Nat.le_refl _)
            rw [Nat.sub_self] at q
            have e : ordF lrs (f + 1) (some i) = ordPre lrs f (some i) lrs.length := rfl
            rw [List.length_cons]
            show (ordF lrs (f + 1) (some i)).length + 1 ≤ _
            rw [e]
            omega
          · exact Nat.zero_le _
        have p : 2 ^ (lrs.length - i) = 2 ^ (lrs.length - (i + 1)) + 2 ^ (lrs.length - (i + 1)) := by rw [show lrs.length - i = (lrs.length - (i + 1)) + 1 by omega, Nat.pow_succ]; omega
        omega
theorem ordPre_len {lrs : List LR} (hab : AbOk lrs) (hn : lrs.length ≤ 6) (f : Nat) (ab : Option Nat) {i : Nat} (hi : i ≤ lrs.length) : (ordPre lrs f ab i).length ≤ 64 := by
  have := ord_bound hab f ab 0 (fun _ _ _ _ => Nat.zero_le _) i (Nat.zero_le _) hi
  have p : 2 ^ lrs.length ≤ 64 := Nat.pow_le_pow_right (n := 2) (by decide) hn
  rw [Nat.sub_zero] at this
  exact Nat.le_trans (Nat.le_trans (Nat.le_add_right _ _) this) p
theorem ordF_len {lrs : List LR} (hab : AbOk lrs) (hn : lrs.length ≤ 6) (f : Nat) (ab : Option Nat) : (ordF lrs f ab).length ≤ 64 := by
  cases f with
  | zero => simp [ordF]
  | succ f => exact ordPre_len hab hn f ab (Nat.le_refl _)
def ordJ (rL : Addr) (va : Value) (lrs : List LR) (f : Nat) (ab : Option Nat) (news : List (Addr × Obj)) : Jt := fun i m n => ∃ oat lf fv nf, m = mk [(st "at", oat), (st "found", some (.ref lf)), (st "above", some va), (st "rows", some (.ref rL))] ∧ n = (lf, lst fv nf) :: news ∧ IntsAre fv ((ordPre lrs f ab i).map fun k : Nat => (k : Int)) ∧ ∀ p ∈ news, p.1 < lf
theorem order_t (w : World) {O : List (Addr × Obj)} {lrs : List LR} (hab : AbOk lrs) (hn : lrs.length ≤ 6) : ∀ (f : Nat) {dp un : Nat} {gd : Option (List Code)} {env : Env} {outer : List Env} {h₀ : Heap} {L : Addr} {m : Str → Option Value} {s : Shared} {Q E : Value → Shared → Prop} {news : List (Addr × Obj)} {rL : Addr} {rv : List Value} {rLn : Nat} {va : Value} {ab : Option Nat}
    (C : Cx w outer h₀ L env m s.heap news) (hr : (rL, lst rv rLn) ∈ news) (hs : ∀ p ∈ O, p ∈ news) (hrs : All2 (RowIs w O) rv lrs) (hva : AbIs va ab) (hfu : Fuel lrs.length f ab)
    (hd : dp + f + 2 < recursionLimit) (hu : un + 10 * f + 100 < cLine)
    (ret : ∀ l vs n h' tk', (∀ p ∈ news, p.1 < l) → IntsAre vs ((ordF lrs f ab).map fun k : Nat => (k : Int)) → Fr h₀ L h' m → News h₀ L h' ((l, lst vs n) :: news) → Q (.ref l) { s with heap := h', toks := tk' }),
    wpAny (model prg w) (aT dp un gd env outer) (call (.ref 496) [.ref rL, va]) Q E s := by
  intro f
  induction f with
  | zero =>
    intro dp un gd env outer h₀ L m s Q E news rL rv rLn va ab C hr hs hrs hva hfu
    exfalso
    cases ab with
    | none => exact absurd hfu (Nat.not_succ_le_zero _)
    | some a => have := hfu.1; have := hfu.2; omega
  | succ f ih =>
    intro dp un gd env outer h₀ L m s Q E news rL rv rLn va ab C hr hs hrs hva hfu hd hu ret
    refine C.elim ?_; intro A₀ base mean mg mb B T F N X hf hk
    k_extra "FILL"
    have hrl := hrs.length
    k_extra "ENTER"
    replace F' := Fr.of_eq (mk_binds [(Str.ofString "above", va), (Str.ofString "rows", .ref rL)]) F'
    k_steps
    refine goOn ?_
    rename IsRange _ _ _ _ _ _ _ _ => rg
    rename News _ _ _ _ => N6
    rename Fr g' _ _ _ => F6
    refine' for_range_J (n := rv.length) (ordJ rL va lrs f ab news) rfl rg rfl (by omega) (Fr.of_eq ?mp F6) (news_sub N6 fun p hp => hp) ⟨none, _, [], 0, ?mp2, rfl, .nil, ?lt0⟩ (goOn ?turn) (goOn ?done)
    case mp => exact mk_of (l := [(st "at", none), (st "found", some (.ref _)), (st "above", some va), (st "rows", some (.ref rL))]) ⟨rfl, rfl, rfl, rfl, trivial⟩ (by intro y hy; simp only [AllNe] at hy; simp [mk, hy])
    case mp2 => rfl
    case lt0 => assumption
    case turn =>
      intro I i ti m1 n1 it h3 tk3 hi hI hoff hJ F2 N2
      try k_fold
      refine E4_4 (hJ) ?_; (try clear hJ); intro oat lf fv nf hq8 hq9 hfv hlf; obtain rfl := hq8; obtain rfl := hq9
      refine E1_2 (hrs.get (List.getElem?_eq_getElem hi)) ?_; intro lr hlr hr0; refine E11_4 (hr0) ?_; (try clear hr0); intro ri nr d2 d3 o2 o3 kv2 kv3 tn9 tm9 va9 hve hrm hva9 hz1; clear hz1
      have hv9 : rv[((i : Int)).toNat]? = some (.ref ri) := by rw [Int.toNat_natCast, List.getElem?_eq_getElem hi, hve]
      have hrm := hs _ hrm
      have hfl := hfv.length
      have hfl2 := ordPre_len hab hn f ab (i := i) (by omega)
      rw [List.length_map] at hfl
      have hst := ordPre_step lrs f ab i
      k_steps
      refine eq_ab hva9 hva ?_
      cases hdec : decide (lr.above = ab) with
      | false =>
        rw [show ordG lrs (fun i => ordF lrs f (some i)) ab i = [] from if_neg (by rw [hlr]; intro e; exact of_decide_eq_false hdec (Option.some.inj e)), List.append_nil] at hst
        k_steps
        rename News _ _ _ _ => N7
        rename Fr g' _ _ _ => F7
        refine JPost.fin ((lf, lst fv nf) :: news) F7 N7 (fun p hp => hp) hoff ⟨some (.int i ti), lf, fv, nf, ?_, rfl, by rw [hst]; exact hfv, hlf⟩
        k_extra "MAP"
      | true =>
        have hea : lr.above = ab := of_decide_eq_true hdec
        rw [show ordG lrs (fun i => ordF lrs f (some i)) ab i = i :: ordF lrs f (some i) from if_pos (by rw [hlr, ← hea]; rfl)] at hst
        k_steps
        refine goOn ?_
        rename News _ _ _ _ => N7
        refine' ih (ab := some i) ?C ?r ?s hrs ⟨ti, rfl⟩ (hfu.down hab hlr hea) ?hd ?hu ?_
        case C => k_extra "CXC"
        case r => k_mem
        case s =>
          intro p hp
          have := hs p hp
          k_extra "INTAIL"
        case hd => ktr_room
        case hu => ktr_units
        intro l9 vs9 n9 h9 tk9 hl9 hvs9 F9 N9
        try k_fold
        have hl8 := hvs9.length
        have hl7 := ordF_len hab hn f (some i)
        rw [List.length_map] at hl8
        k_steps
        rename News _ _ _ _ => N8
        rename Fr g' _ _ _ => F8
        refine JPost.fin ((_, lst (fv ++ [.int i ti] ++ vs9) _) :: news) F8 N8 (by k_extra "SUB") (fun p hp => ?_) ⟨some (.int i ti), _, _, _, ?_, rfl, ?_, ?_⟩
        · rcases List.mem_cons.mp hp with rfl | hp
          · k_ne
          · exact hoff p (.tail _ hp)
        · k_extra "MAP"
        · rw [hst, List.map_append, List.map_cons, List.append_assoc]
          exact ints_append hfv (.cons _ _ hvs9)
        · first | assumption | exact allLt_out (by assumption)
    case done =>
      intro m1 n1 h3 tk3 hJ F2 N2
      try k_fold
      refine E4_4 (hJ) ?_; (try clear hJ); intro oat lf fv nf hq2 hq3 hfv hlf; obtain rfl := hq2; obtain rfl := hq3
      k_steps
      rw [hrl] at hfv
      rename News h₀ _ _ _ => N8
      exact ret _ _ _ _ _ hlf hfv (by k_asm) (by k_asm)
end

-- part p31_dturns.lean
section
open PySem.Calls PyProof.V PySem.Spec
variable {w : World} {A : Around} {E : Value → Shared → Prop} {s : Shared} {env : Env} {h₀ : Heap} {target : PySem.Expr} {body : List Stmt} {Q : Flow → Shared → Prop}
theorem itemsRest_D {I : Addr} {lp : Addr × Obj} {kvs : List (Str × Value)} (J : Jt)
    (turn : ∀ i k v t m₁ news₁ it h tk, kvs[i]? = some (k, v) → (∀ p ∈ news₁, p.1 ≠ I) → lp ∈ news₁ → J i m₁ news₁ → it.cls = .type "dict_keyiterator" → Fr h₀ env.locals h m₁ → News h₀ env.locals h ((I, it) :: news₁) →
      wpAny (model prg w) A (assign target env (.str k t)) (fun _ s₂ => wpAny (model prg w) A (execs body env) (JPost h₀ env.locals { s with heap := h, toks := tk } I it (fun m' n' => lp ∈ n' ∧ J (i + 1) m' n') Q) E s₂) E { s with heap := h, toks := tk })
    (done : ∀ m₁ news₁ h tk, lp ∈ news₁ → J kvs.length m₁ news₁ → Fr h₀ env.locals h m₁ → News h₀ env.locals h news₁ → Q .next { s with heap := h, toks := tk }) :
    ∀ (k i : Nat) (m : Str → Option Value) (news : List (Addr × Obj)), i + k = kvs.length → (∀ p ∈ news, p.1 ≠ I) → lp ∈ news → J i m news → ItemsRest prg w A E h₀ env target body Q s [(I, "dict_keyiterator")] [lp] ((kvs.drop i).map fun p => Itm.tok fun t => .str p.1 t) m news
  | 0, i, m, news, e, off, hl, hj => by
    have : i = kvs.length := by omega
    subst this
    rw [List.drop_length]
    exact fun h tk F N => done m news h tk hl hj F N
  | k + 1, i, m, news, e, off, hl, hj => by
    have hlt : i < kvs.length := by omega
    rw [List.drop_eq_getElem_cons hlt, List.map_cons]
    refine ItemsRest.tok fun t h tk F => AllObj.cons (fun it hc => AllObj.nil fun N => ?_)
    refine wpAny_mono (turn i _ (kvs[i]).2 t m news it h tk (List.getElem?_eq_getElem hlt) off hl hj hc F N) (fun _ s₂ h₂ => wpAny_mono h₂ (fun f s₃ p => ?_) fun _ _ e => e) fun _ _ e => e
    have fin : ∀ s₃, UnrEnd h₀ env.locals { s with heap := h, toks := tk } I it (fun m' n' => lp ∈ n' ∧ J (i + 1) m' n') s₃ → UnrEndW h₀ env.locals { s with heap := h, toks := tk } [(I, it)] (fun m' n' => SubL [lp] n' ∧ ItemsRest prg w A E h₀ env target body Q s [(I, "dict_keyiterator")] [lp] ((kvs.drop (i + 1)).map fun p => Itm.tok fun t => .str p.1 t) m' n') s₃ := by
      rintro s₃ ⟨h', tk', m', n', e', F', N', o, r⟩
      exact ⟨h', tk', m', n', e', F', N', fun p hp q hq => by rw [List.mem_singleton.mp hq]; exact o p hp, ⟨r.1, trivial⟩, itemsRest_D J turn done k (i + 1) m' n' (by omega) o r.1 r.2⟩
    cases f with
    | ret v => exact p
    | brk => exact p
    | next => exact fin _ p
    | cont => exact fin _ p
theorem for_dturns_J {d : Addr} {od : Obj} {kvs : List (Str × Value)} {m₀ : Str → Option Value} {news : List (Addr × Obj)} (J : Jt)
    (hh : A.handled = none) (F : Fr h₀ env.locals s.heap m₀) (N : News h₀ env.locals s.heap news) (hm : (d, od) ∈ news) (hd : od.IsDictOf (PySem.strKind prg w) kvs) (lo : (d == sysModules) = false) (h0 : J 0 m₀ news)
    (turn : Later (∀ I i k v t m₁ news₁ it h tk, kvs[i]? = some (k, v) → (∀ p ∈ news, p.1 < I) → (∀ p ∈ news₁, p.1 ≠ I) → (d, od) ∈ news₁ → J i m₁ news₁ → it.cls = .type "dict_keyiterator" → Fr h₀ env.locals h m₁ → News h₀ env.locals h ((I, it) :: news₁) →
      wpAny (model prg w) A (assign target env (.str k t)) (fun _ s₂ => wpAny (model prg w) A (execs body env) (JPost h₀ env.locals { s with heap := h, toks := tk } I it (fun m' n' => (d, od) ∈ n' ∧ J (i + 1) m' n') Q) E s₂) E { s with heap := h, toks := tk }))
    (done : Later (∀ m₁ news₁ h tk, (d, od) ∈ news₁ → J kvs.length m₁ news₁ → Fr h₀ env.locals h m₁ → News h₀ env.locals h news₁ → Q .next { s with heap := h, toks := tk })) :
    wpAny (model prg w) A (pyIter (.ref d)) (fun it s₂ => TurnsAt prg w A h₀ env target body Q E it s₂) E s := by
  have hax := N _ hm
  obtain ⟨ep, ha⟩ := KdkAt.of hd
  have hat := ha.dictAt hax.1
  have hne : d ≠ s.heap.objs.size := Nat.ne_of_lt (Heap.lt_size hax.1)
  have hI : ∀ p ∈ news, p.1 < s.heap.objs.size := fun p hp => Heap.lt_size (N p hp).1
  have rest := itemsRest_D (w := w) (A := A) (E := E) (s := s) (env := env) (h₀ := h₀) (target := target) (body := body) (Q := Q) (I := s.heap.objs.size) (lp := (d, od)) (kvs := kvs) J (fun i k v t m₁ news₁ it h tk e o a b c d' e' => turn _ i k v t m₁ news₁ it h tk e hI o a b c d' e') done kvs.length 0 m₀ news (by omega) (fun p hp => Nat.ne_of_lt (hI p hp)) hm h0
  rw [List.drop_zero] at rest
  refine wpAny_pyIter_dict lo hat ?_
  refine ktu_core (tk0 := s.toks) (keep := [(d, od)]) (KTurns.ofWalks (Walks.dictKeys (knd := PySem.strKind prg w) hh s.heap.objs.size d hne kvs ep) fun i v s Q E st q => letGo_keyiter st.1 q) (by rw [List.length_map]) ?_ ?_ ?_ ?_ ?_ ?_ ?_ ?_ (F.push _) (fun p hp => ⟨Heap.get?_push_of_some _ (N p hp).1, (N p hp).2⟩) (And.intro hm trivial) rest
  · rintro i v h ⟨k, x, hx, hk⟩
    obtain ⟨t, rfl⟩ := PySem.Value.isStrOf_shape hk
    exact ⟨.tok fun t => .str k t, by rw [List.getElem?_map, hx]; rfl, t, rfl⟩
  · rintro i h ⟨⟨oi, g, c, _⟩, _⟩
    exact ⟨[(s.heap.objs.size, oi)], ⟨⟨rfl, c⟩, trivial⟩, fun p hp => by rw [List.mem_singleton.mp hp]; exact g⟩
  · intro b hb
    have hb' : b = s.heap.objs.size := by simpa using hb
    rw [hb']
    exact ⟨List.mem_cons_self .., next_is_new F⟩
  · intro b hb
    simpa using hb
  · intro b hb
    have hb' : b = s.heap.objs.size ∨ b = d := by simpa using hb
    rcases hb' with e | e
    · exact .inl (by simp [e])
    · exact .inr ⟨od, by simp [e]⟩
  · intro hI
    have hb' : env.locals = s.heap.objs.size ∨ env.locals = d := by simpa using hI
    rcases hb' with e | e
    · exact absurd F.ns.lt (e ▸ Nat.lt_irrefl _)
    · exact hax.2.1 e.symm
  · intro p hp hI'
    exact absurd (hI p hp) ((List.mem_singleton.mp hI') ▸ Nat.lt_irrefl _)
  · exact ⟨⟨_, Heap.get?_push_size _ rfl, rfl, rfl⟩, hat.push _⟩
end

-- part p32_lawid.lean
section
open PySem.Calls PyProof.V PySem.Spec
local macro_rules | `(tactic| walk_at "call ref") => `(tactic| k_extra "W13")

theorem eq_none_s {w : World} {A : Around} {E : Value → Shared → Prop} {s : Shared} {x : Str} {t : Tok} {Q : Value → Shared → Prop} (h : Q (.bool false) s) : wpAny (model prg w) A (compareOp .Eq .none (.str x t)) Q E s := EqNone.eq_none_str h
local macro_rules | `(tactic| walk_at "compareOp Eq none str") => `(tactic| refine eq_none_s ?_)

theorem kv_keys {β : Type} {S : Value → β → Prop} : ∀ {kvs : List (Str × Value)} {tab : List (Str × β)}, All2 (KV S) kvs tab → kvs.map (·.1) = tab.map (·.1)
  | [], [], _ => rfl
  | _ :: _, _ :: _, h => by rw [List.map_cons, List.map_cons, h.1.1, kv_keys h.2]
  | [], _ :: _, x => x.elim
  | _ :: _, [], x => x.elim
theorem value_get {k : Str} {v : Value} : ∀ {kvs : List (Str × Value)} {i : Nat}, (kvs.map (·.1)).Nodup → kvs[i]? = some (k, v) → valueAt kvs k = some v
  | [], _, _, h => by simp at h
  | p :: kvs, 0, _, h => by
    have e : p = (k, v) := by simpa using h
    subst e; simp [valueAt]
  | p :: kvs, i + 1, hn, h => by
    have hn' := List.nodup_cons.mp hn
    have h' : kvs[i]? = some (k, v) := by simpa using h
    have hne : p.1 ≠ k := fun e => hn'.1 (List.mem_map.mpr ⟨_, List.mem_of_getElem? h', e.symm⟩)
    have := value_get hn'.2 h'
    simpa [valueAt, hne] using this
def lidP (rs : List (Str × Str)) (as : List AI) : Option Str := match as.find? fun a => decide (rs.lookup a.name = some (st "ID")) with
  | none => none
  | some a => one? a.words
def lidJ (kd ri : Addr) (rs : List (Str × Str)) (as : List AI) (news : List (Addr × Obj)) : Jt := fun i m n => ∃ on, m = mk [(st "name", on), (st "row", some (.ref ri)), (st "kinds", some (.ref kd))] ∧ n = news ∧ (as.take i).find? (fun a => decide (rs.lookup a.name = some (st "ID"))) = none
variable (w : World) {dp un : Nat} {gd : Option (List Code)} {env : Env} {outer : List Env} {h₀ : Heap} {L : Addr} {m : Str → Option Value} {s : Shared} {Q E : Value → Shared → Prop} {news Z O : List (Addr × Obj)}
local macro_rules | `(tactic| walk_at "PAD") => `(tactic| fail)
theorem lawid_t {kd : Addr} {tab : Tab} {rs : List (Str × Str)} {lr : LR} {v : Value} (C : Cx w outer h₀ L env m s.heap news) (hs : ∀ p ∈ Z, p ∈ news) (hO : ∀ p ∈ O, p ∈ news) (H : KindsIn w Z kd tab) (he : tab.lookup lr.name = some rs) (hr : RowIs w O v lr) (hat : AtsOk lr.as)
    (hd : dp + 2 < recursionLimit) (hu : un + 60 < cLine)
    (ret : ∀ v h' tk', OptStr v (lidP rs lr.as) → Fr h₀ L h' m → News h₀ L h' news → Q v { s with heap := h', toks := tk' }) :
    wpAny (model prg w) (aT dp un gd env outer) (call (.ref 503) [.ref kd, v]) Q E s := by
  refine C.elim ?_; intro A₀ base mean mg mb B T F N X hf hk
  refine E11_10 (hr) ?_; (try clear hr); intro ri nr d2 d3 o2 o3 kv2 kv3 tn tm va hq4 r1 hz5 r2 hz6 hp7 i2 a2 hz8 hz9; obtain rfl := hq4; clear hz5; clear hz6; obtain ⟨lo2, -⟩ := hp7; clear hz8; clear hz9
  have r1 := hO _ r1
  have r2 := hO _ r2
  refine E2_4 (H) ?_; (try clear H); intro ok kkv q1 q2 q3 q4
  refine E1_2 (kv_some q4 he) ?_; intro _ hv1 hr0; refine E3_5 (hr0) ?_; (try clear hr0); intro ka oka vs hq1 q5 q6 q7 q8; obtain rfl := hq1
  have q1 := hs _ q1
  have q5 := hs _ q5
  k_extra "FILL"
  k_extra "ENTER"
  replace F' := Fr.of_eq (mk_binds [(st "row", .ref ri), (st "kinds", .ref kd)]) F'
  k_steps
  refine goOn ?_
  rename News _ _ _ _ => N1
  rename Fr g' _ _ _ => F1
  refine' for_dict_J (lidJ kd ri rs lr.as news) rfl (Fr.of_eq ?mp F1) N1 r2 i2 lo2 ⟨none, rfl, rfl, rfl⟩ (goOn ?turn) (goOn ?done)
  case mp => exact mk_of2 (by k_extra "OFFM") rfl
  case turn =>
    intro I i nm vv tnm m₁ news₁ it h tk hi hlt hoff hm hJ hc F2 N2
    try k_fold
    refine E1_3 (hJ) ?_; (try clear hJ); intro on hq2 hq3 hfi; obtain rfl := hq2; obtain rfl := hq3
    refine E1_2 (a2.get hi) ?_; intro hp4 hai hr5; obtain ⟨nm', ws⟩ := hp4; refine E0_2 (hr5) ?_; (try clear hr5); intro e1 hr6; refine E3_3 (hr6) ?_; (try clear hr6); intro D ys nD hvv hD hys
    dsimp only at e1 hi hys
    subst e1
    rw [List.getElem?_map] at hai
    cases hq : lr.as[i]? with
    | none => rw [hq] at hai; cases hai
    | some a =>
      rw [hq] at hai
      obtain ⟨rfl, rfl⟩ : a.name = nm ∧ a.words = ws := by simpa using hai
      subst hvv
      have hD := hO _ hD
      have hat1 := hat.2.2 a (List.mem_of_getElem? hq)
      have hnd := hat.1
      have hws : valueAt kv2 a.name = some (.ref D) := value_get (by rw [kv_keys a2, List.map_map]; exact hat.1) hi
      refine E1_2 (kv_opt (k := a.name) q8) ?_; intro ov hov hov2
      cases hL : rs.lookup a.name with
      | none =>
        rw [hL] at hov2
        replace hov2 : ov = none := hov2
        subst hov2
        k_steps
        refine JPost.fin news₁ F2 N2 (fun p hp => hp) hoff ⟨hm, some (.str a.name tnm), ?_, rfl, find_miss hfi hq (by rw [hL]; rfl)⟩
        k_extra "MAP"
      | some kk =>
        rw [hL] at hov2
        refine E1_2 (hov2) ?_; (try clear hov2); intro v9 hq7 hr8; obtain rfl := hq7; obtain ⟨t9, rfl⟩ := hr8
        k_steps
        · rename (_ = true) => hb
          have hyl := hys.len_eq
          have hyl2 : ys.length ≤ 1000 := by omega
          unfold lidP at ret
          rw [find_hit hfi hq (by rw [hL]; exact decide_eq_true (congrArg some (by simpa using hb)))] at ret
          dsimp only at ret
          generalize a.words = ws at hys ret
          cases hys with
          | nil =>
            k_steps
            all_goals first
              | (rename (_ = (1 : Int)) => hz; exfalso; simp only [List.length_cons, List.length_nil] at hz; omega)
              | (rename (_ ≠ (1 : Int)) => hz; exfalso; simp only [List.length_cons, List.length_nil] at hz; omega)
              | (refine JPost.ret ?_; k_steps; (rename News h₀ _ _ _ => N3); exact ret _ _ _ rfl (by k_asm) (news_sub N3 (by k_extra "SUB")))
          | cons x1 t1 r1 => cases r1 with
            | nil =>
              k_steps
              all_goals first
                | (rename (_ = (1 : Int)) => hz; exfalso; simp only [List.length_cons, List.length_nil] at hz; omega)
                | (rename (_ ≠ (1 : Int)) => hz; exfalso; simp only [List.length_cons, List.length_nil] at hz; omega)
                | (refine JPost.ret ?_; k_steps; (rename News h₀ _ _ _ => N3); exact ret _ _ _ ⟨_, rfl⟩ (by k_asm) (news_sub N3 (by k_extra "SUB")))
            | cons x2 t2 r2 =>
              k_steps
              all_goals first
                | (rename (_ = (1 : Int)) => hz; exfalso; simp only [List.length_cons, List.length_nil] at hz; omega)
                | (rename (_ ≠ (1 : Int)) => hz; exfalso; simp only [List.length_cons, List.length_nil] at hz; omega)
                | (refine JPost.ret ?_; k_steps; (rename News h₀ _ _ _ => N3); exact ret _ _ _ rfl (by k_asm) (news_sub N3 (by k_extra "SUB")))
        · rename (kk == _) = false => hb
          have hfi' := find_miss hfi hq (decide_eq_false (p := rs.lookup a.name = some (st "ID")) fun e => by rw [hL] at e; rw [Option.some.inj e] at hb; simp at hb)
          refine JPost.fin news₁ F2 N2 (fun p hp => hp) hoff ⟨hm, some (.str a.name tnm), ?_, rfl, hfi'⟩
          k_extra "MAP"
  case done =>
    intro m₁ news₁ h tk hm hJ F2 N2
    try k_fold
    refine E1_3 (hJ) ?_; (try clear hJ); intro on hq9 hq0 hfi; obtain rfl := hq9; obtain rfl := hq0
    rw [a2.length, List.length_map, List.take_length] at hfi
    k_steps
    unfold lidP at ret
    rw [hfi] at ret
    exact ret _ _ _ rfl (by k_asm) (by k_asm)
end

-- part p33_lawrefs.lean
section
open LCg LCt PySem.Calls PyProof.V PySem.Spec
local macro_rules | `(tactic| walk_at "call ref") => `(tactic| k_extra "W13")
local macro_rules | `(tactic| k_all) => `(tactic| k_extra "W30")
local macro_rules | `(tactic| walk_at "exec For Name Subscript cons nil") => `(tactic| (k_here; (rename Fr _ _ _ _ => lF'); (with_unfolding_all refine' For_turns lF' ?_; k_whole)))
local macro_rules | `(tactic| walk_at "pyIter ref") => `(tactic| ((with_reducible show wpAny _ _ (pyIter (Value.ref _)) (fun it s₂ => TurnsAt _ _ _ _ _ _ _ _ _ it s₂) _ _); refine stopAt ?_))

variable (w : World) {dp un : Nat} {gd : Option (List Code)} {env : Env} {outer : List Env} {h₀ : Heap} {L : Addr} {m : Str → Option Value} {s : Shared} {Q E : Value → Shared → Prop} {news Z O : List (Addr × Obj)}
local macro_rules | `(tactic| walk_at "binaryOp Add ref ref") => `(tactic| (k_extra "W55"; intro D' h' l1 F' N'; (try k_lt l1)))

def isRefO : Option Str → Bool
  | none => false
  | some k => decide (k = st "IDREF") || decide (k = st "IDREFS")
theorem isRef_eq (rs : List (Str × Str)) (nm : Str) : isRef rs nm = isRefO (rs.lookup nm) := by unfold isRef isRefO; rfl
open Classical in
theorem in_kinds {w : World} {A : Around} {E : Value → Shared → Prop} {s : Shared} {h₀ : Heap} {L l : Addr} {news : List (Addr × Obj)} {v : Value} {o : Option Str} {t1 t2 : Tok} {n : Nat} {Q : Value → Shared → Prop} (N : News h₀ L s.heap news) (hm : (l, lst [.str (st "IDREF") t1, .str (st "IDREFS") t2] n) ∈ news) (hv : OptStr v o) (ho : ∀ k, o = some k → PyData.strOk k = true) (hu : A.units + 64 < cLine)
    (h : Q (.bool (isRefO o)) s) : wpAny (model prg w) A (compareOp .In v (.ref l)) Q E s := by
  obtain ⟨d, Dx, hd, hb⟩ : ∃ d, DatIn news v d ∧ kqdOk 8 d = true ∧ (d ∈ [Dat.str (st "IDREF"), Dat.str (st "IDREFS")] ↔ isRefO o = true) := by
    cases o with
    | none =>
      have hv' : v = .none := hv
      subst hv'
      exact ⟨_, .none, rfl, by simp [isRefO]⟩
    | some k =>
      obtain ⟨t, rfl⟩ := hv
      exact ⟨_, .str k t, by simp [kqdOk, ho k rfl], by simp [isRefO]⟩
  refine kqd_isIn (n₁ := news) (n₂ := news) (xs := [.str (st "IDREF") t1, .str (st "IDREFS") t2]) (ds := [Dat.str (st "IDREF"), Dat.str (st "IDREFS")]) N hm rfl rfl (DatAll.cons (.str _ _) (DatAll.cons (.str _ _) .nil)) (fun _ h => h) Dx (fun _ h => h) ?_ hd hu ?_
  · intro x hx
    simp only [List.mem_cons, List.not_mem_nil, or_false] at hx
    rcases hx with rfl | rfl <;> decide +kernel
  · cases hr : isRefO o with
    | true => rw [decide_eq_true (hb.mpr hr)]; rw [hr] at h; exact h
    | false => rw [decide_eq_false fun e => by rw [hb.mp e] at hr; cases hr]; rw [hr] at h; exact h
def pairJ (nd : Int) (ws : List Str) (base : List (Addr × Obj)) : Jc := fun i ys n => ∃ T, n = T ++ base ∧ All2 (PairIn T) ys ((ws.take i).map fun x => (nd, x)) ∧ ∀ p ∈ T, ∀ q ∈ base, q.1 ≠ p.1
def lrefJ (L' kd : Addr) (rs : List (Str × Str)) (as : List AI) (fix : List (Addr × Obj)) : Jt := fun i m n => ∃ lf fv nf oc ov Zi,
  m = (fun y => if y = st "found" then some (.ref lf) else mk [(st "kinds", some (.ref kd))] y) ∧ n = (lf, lst fv nf) :: (L' + 1 + 1, oc) :: Zi ∧ oc.data = .cell ov ∧ (∀ p ∈ Zi, p.1 ≠ L' + 1 + 1) ∧ (∀ p ∈ fix, p ∈ Zi) ∧ All2 (PairIn Zi) fv (refsP rs (as.take i)) ∧ @Ne Nat lf (L' + 1 + 1)
theorem lookup_mem {nm k : Str} : ∀ {rs : List (Str × Str)}, rs.lookup nm = some k → (nm, k) ∈ rs
  | [], h => by simp at h
  | (a, b) :: rs, h => by
    rw [List.lookup_cons] at h
    cases e : nm == a with
    | true =>
      rw [e] at h
      have e2 : nm = a := by simpa using e
      have e3 : b = k := by simpa using h
      subst e2 e3
      exact .head _
    | false => rw [e] at h; exact .tail _ (lookup_mem h)
theorem lawrefs_t {kd : Addr} {tab : Tab} {rs : List (Str × Str)} {lr : LR} {v : Value} (C : Cx w outer h₀ L env m s.heap news) (hs : ∀ p ∈ Z, p ∈ news) (hO : ∀ p ∈ O, p ∈ news) (H : KindsIn w Z kd tab) (he : tab.lookup lr.name = some rs) (hr : RowIs w O v lr) (hat : AtsOk lr.as) (hok : ∀ p ∈ rs, PyData.strOk p.2 = true) (hz : (refsP rs lr.as).length ≤ 900)
    (hd : dp + 3 < recursionLimit) (hu : un + 100 < cLine)
    (ret : ∀ l vs n Z' h' tk', (∀ p ∈ news, p ∈ Z') → All2 (PairIn Z') vs (refsP rs lr.as) → Fr h₀ L h' m → News h₀ L h' ((l, lst vs n) :: Z') → Q (.ref l) { s with heap := h', toks := tk' }) :
    wpAny (model prg w) (aT dp un gd env outer) (call (.ref 508) [.ref kd, v]) Q E s := by
  refine C.elim ?_; intro A₀ base mean mg mb B T F N X hf hk
  refine E11_10 (hr) ?_; (try clear hr); intro ri nr d2 d3 o2 o3 kv2 kv3 tn tm va hq1 r1 hz2 r2 r3 hp3 i2 a2 i3 a3; obtain rfl := hq1; clear hz2; obtain ⟨lo2, lo3⟩ := hp3
  have r1 := hO _ r1
  have r2 := hO _ r2
  have r3 := hO _ r3
  refine E2_4 (H) ?_; (try clear H); intro ok kkv q1 q2 q3 q4
  refine E1_2 (kv_some q4 he) ?_; intro _ hv1 hr4; refine E3_5 (hr4) ?_; (try clear hr4); intro ka oka vs hq5 q5 q6 q7 q8; obtain rfl := hq5
  have q1 := hs _ q1
  have q5 := hs _ q5
  k_extra "FILL"
  k_extra "ENTERC"
  replace F' := Fr.of_eq (bindL_mk (l := [(st "kinds", .ref kd)]) (by with_unfolding_all rfl)) F'
  rename_i o1 o2 dd1 dd2
  replace dd1 : o1.data = .cell none := dd1
  replace dd2 : o2.data = .cell (some (.ref ri)) := dd2
  k_steps
  refine goOn ?_
  rename News _ _ _ _ => N1
  rename Fr g' _ _ _ => F1
  have hc1 : ∀ p ∈ (L' + 1, o2) :: news, p.1 ≠ L' + 1 + 1 := fun p hp => by
    rcases List.mem_cons.mp hp with rfl | hp
    · exact neN (by omega)
    · have h9 : ∀ p ∈ news, @LT.lt Nat _ p.1 L' := by assumption
      have := h9 p hp
      exact neN (by omega)
  refine' for_dturns_J (lrefJ L' kd rs lr.as ((L' + 1, o2) :: news)) rfl F1 N1 (.tail _ (.tail _ (.tail _ r2))) i2 lo2 ⟨_, [], 0, o1, none, _, rfl, ?n0, dd1, ?o0, fun _ h => h, trivial, ?nl⟩ (goOn ?turn) (goOn ?done)
  case n0 => rfl
  case nl => k_ne
  case o0 => exact hc1
  case turn =>
    intro I i nm vv tnm m₁ news₁ it h tk hi hlt hoff hm hJ hc F2 N2
    try k_fold
    refine E6_7 (hJ) ?_; (try clear hJ); intro lf fv nf oc ov Zi hq6 hq7 hcd hZc hfix hfv hlc; obtain rfl := hq6; obtain rfl := hq7
    refine E1_2 (a2.get hi) ?_; intro hp8 hai hr9; obtain ⟨nm', ws⟩ := hp8; refine E0_2 (hr9) ?_; (try clear hr9); intro e1 hr0; refine E3_3 (hr0) ?_; (try clear hr0); intro D ys nD hvv hD hys
    dsimp only at e1 hi hys
    subst e1
    rw [List.getElem?_map] at hai
    cases hq : lr.as[i]? with
    | none => rw [hq] at hai; cases hai
    | some a =>
      rw [hq] at hai
      obtain ⟨rfl, rfl⟩ : a.name = nm ∧ a.words = ws := by simpa using hai
      subst hvv
      have hD := hfix _ (.tail _ (hO _ hD))
      have r1 := hfix _ (.tail _ r1)
      have r2 := hfix _ (.tail _ r2)
      have r3 := hfix _ (.tail _ r3)
      have q1 := hfix _ (.tail _ q1)
      have q5 := hfix _ (.tail _ q5)
      have hcr := hfix _ (.head _)
      have hws : valueAt kv2 a.name = some (.ref D) := value_get (by rw [kv_keys a2, List.map_map]; exact hat.1) hi
      have hIc : @Ne Nat I (L' + 1 + 1) := fun e => hoff (L' + 1 + 1, oc) (.tail _ (.head _)) (Eq.symm e)
      have hIl : @Ne Nat I lf := fun e => hoff (lf, lst fv nf) (.head _) (Eq.symm e)
      refine E1_2 (kv_opt (k := a.name) q8) ?_; intro ov9 hov hov2
      have hv9 : OptStr (ov9.getD .none) (rs.lookup a.name) := by
        revert hov2
        cases rs.lookup a.name with
        | none => intro e; rw [e]; rfl
        | some k => rintro ⟨v, rfl, t, rfl⟩; exact ⟨t, rfl⟩
      have hst := refsP_step (rs := rs) hq
      k_steps
      rename News _ _ _ _ => N3
      refine in_kinds N3 (.head _) hv9 (fun k e => ?ok) ?un ?_
      case ok => exact hok _ (lookup_mem e)
      case un => ktr_units
      rw [← isRef_eq]
      cases hR : isRef rs a.name with
      | false =>
        rw [show refs1 rs a = [] from if_neg (by rw [hR]; decide), List.append_nil] at hst
        k_steps
        rename News _ _ _ _ => N4
        rename Fr g' _ _ _ => F4
        rename Obj.data _ = Data.cell (some (Value.str _ _)) => hcd4
        refine JPost.fin ((lf, lst fv nf) :: (L' + 1 + 1, _) :: Zi) F4 N4 (by k_extra "SUB") (fun p hp => ?_) ⟨.tail _ (.tail _ r2), lf, fv, nf, _, _, Zi, rfl, rfl, hcd4, hZc, hfix, by rw [hst]; exact hfv, hlc⟩
        rcases List.mem_cons.mp hp with rfl | hp
        · exact Ne.symm hIl
        rcases List.mem_cons.mp hp with rfl | hp
        · exact Ne.symm hIc
        · exact hoff p (.tail _ (.tail _ hp))
      | true =>
        rw [show refs1 rs a = a.words.map fun x => (a.node, x) from if_pos hR] at hst
        refine E1_2 (kv_some a3 (lookup_get (nm := a.name) (k := a.node) (by rw [List.map_map]; exact hat.1) (by rw [List.getElem?_map, hq]; rfl))) ?_; intro vn9 hn3 hr1; obtain ⟨tn9, rfl⟩ := hr1
        have hat1 := hat.2.2 a (List.mem_of_getElem? hq)
        have hyl := hys.len_eq
        k_steps
        refine goOn ?_
        rename Fr g' _ _ _ => F4
        rename Obj.data _ = Data.cell (some (Value.str _ _)) => hcd4
        rename News g' _ _ ((_, lst [.str _ _, .str _ _] _) :: _) => N4
        obtain ⟨Bs, oc4, N4, b1, b2, b3, b4, hcd4⟩ : ∃ Bs oc4, News g' L' _ Bs ∧ (I, it) ∈ Bs ∧ (lf, lst fv nf) ∈ Bs ∧ (L' + 1 + 1, oc4) ∈ Bs ∧ (∀ p ∈ Zi, p ∈ Bs) ∧ oc4.data = .cell (some (.str a.name tnm)) := ⟨_, _, N4, .tail _ (.head _), .tail _ (.tail _ (.head _)), .tail _ (.tail _ (.tail _ (.head _))), fun p hp => .tail _ (.tail _ (.tail _ (.tail _ hp))), hcd4⟩
        refine' comp_list_J (pairJ a.node a.words Bs) rfl F4 N4 (b4 _ hD) (by omega) ⟨[], rfl, trivial, fun _ h => nomatch h⟩ (goOn ?turn2) (goOn ?fin2)
        case turn2 =>
          intro s1 j ys2 n2 v2 I2 oI Cc oC D2 m2 h4 tk4 E2 hj hv2 hJ2 hCc hx2 F5 N5 hoff2 hne2
          try k_fold
          refine E1_3 (hJ2) ?_; (try clear hJ2); intro T2 hq2 hp2 hs2; obtain rfl := hq2
          refine E2_2 (strs_get hys hv2) ?_; intro xw tw hq3 hxw; obtain rfl := hq3
          have e1 := List.mem_append_right T2 (b4 _ hcr)
          have e2 := List.mem_append_right T2 (b4 _ r1)
          have e3 := List.mem_append_right T2 (b4 _ r3)
          have e4 := List.mem_append_right T2 b3
          k_steps
          rename News g' _ _ (_ :: (I2, oI) :: _) => N6
          rename Fr g' _ _ _ => F6
          have l9 := allLt_out (d := _) (by assumption : AllLt _ (T2 ++ Bs))
          refine CEnd.fin ((_, tupO _ 0) :: (T2 ++ Bs)) F6 N6 (by k_extra "SUB") (fun p hp => ?_) (.inr ⟨_, .tail _ (List.mem_append_right T2 (b4 _ hD)), rfl, _, rfl⟩) ⟨(_, tupO _ 0) :: T2, rfl, ?_, fun p hp q hq => ?_⟩
          · rcases List.mem_cons.mp hp with rfl | hp
            · exact ⟨by k_ne, by k_ne, by k_ne⟩
            · exact hoff2 p hp
          · rw [List.take_succ, hxw, List.map_append]
            exact All2.append (hp2.mono fun _ _ h => h.mono fun p hp => .tail _ hp) ⟨⟨_, _, _, _, rfl, .head _⟩, trivial⟩
          · rcases List.mem_cons.mp hp with rfl | hp
            · exact Nat.ne_of_lt (l9 q (List.mem_append_right _ hq))
            · exact hs2 p hp q hq
        case fin2 =>
          intro g ys2 n2 hJ2
          refine E1_3 (hJ2) ?_; (try clear hJ2); intro T2 hq4 hp2 hs2; obtain rfl := hq4
          rw [hyl, List.take_length] at hp2
          have e2 := List.mem_append_right T2 b2
          have hfl := hfv.length
          have hpl := hp2.length
          have hz1 := refsP_take (rs := rs) (as := lr.as) (i + 1)
          rw [hst, List.length_append] at hz1
          rw [List.length_map] at hpl hz1
          k_steps
          rename News g' _ _ ((_, lst (fv ++ ys2) _) :: _) => N6
          rename Fr g' _ _ _ => F6
          have l9 := allLt_out (d := _) (by assumption : AllLt _ (T2 ++ Bs))
          rename_i Df _ _ _ _
          have lI := l9 _ (List.mem_append_right T2 b1)
          have lc := l9 _ (List.mem_append_right T2 b3)
          refine JPost.fin ((Df, lst (fv ++ ys2) 0) :: (L' + 1 + 1, oc4) :: (T2 ++ Zi)) F6 N6 (fun p hp => ?_) (fun p hp => ?_) ⟨.tail _ (.tail _ (List.mem_append_right T2 r2)), Df, fv ++ ys2, 0, oc4, _, T2 ++ Zi, ?_, rfl, hcd4, fun p hp => ?_, fun p hp => List.mem_append_right T2 (hfix p hp), ?_, ?_⟩
          · rcases List.mem_cons.mp hp with rfl | hp
            · exact .tail _ (.tail _ (List.mem_append_right T2 b1))
            rcases List.mem_cons.mp hp with rfl | hp
            · exact .head _
            rcases List.mem_cons.mp hp with rfl | hp
            · exact .tail _ (.tail _ (List.mem_append_right T2 b3))
            rcases List.mem_append.mp hp with hp | hp
            · exact .tail _ (.tail _ (List.mem_append_left _ hp))
            · exact .tail _ (.tail _ (List.mem_append_right T2 (b4 p hp)))
          · rcases List.mem_cons.mp hp with rfl | hp
            · exact Nat.ne_of_gt lI
            rcases List.mem_cons.mp hp with rfl | hp
            · exact Ne.symm hIc
            rcases List.mem_append.mp hp with hp | hp
            · exact fun e => hs2 p hp _ b1 e.symm
            · exact hoff p (.tail _ (.tail _ hp))
          · funext y
            by_cases e : y = st "found" <;> simp [e]
          · rcases List.mem_append.mp hp with hp | hp
            · exact fun e => hs2 p hp _ b3 e.symm
            · exact hZc p hp
          · rw [hst]
            exact All2.append (hfv.mono fun _ _ h => h.mono fun p hp => List.mem_append_right T2 hp) (hp2.mono fun _ _ h => h.mono fun p hp => List.mem_append_left _ hp)
          · exact Nat.ne_of_gt lc
  case done =>
    intro m₁ news₁ h tk hm hJ F2 N2
    try k_fold
    refine E6_7 (hJ) ?_; (try clear hJ); intro lf fv nf oc ov Zi hq5 hq6 hcd hZc hfix hfv hlc; obtain rfl := hq5; obtain rfl := hq6
    rw [a2.length, List.length_map, List.take_length] at hfv
    k_steps
    rename News h₀ _ _ _ => N3
    exact ret _ _ _ Zi _ _ (fun p hp => hfix p (.tail _ hp)) hfv (by k_asm) (news_sub N3 (by k_extra "SUB"))
end

-- part p34_pool.lean
section
open PySem.Calls PyProof.V PySem.Spec
variable (w : World) {dp un : Nat} {gd : Option (List Code)} {env : Env} {outer : List Env} {h₀ : Heap} {L : Addr} {m : Str → Option Value} {s : Shared} {Q E : Value → Shared → Prop} {news : List (Addr × Obj)}
theorem ite01 (c : Prop) [Decidable c] : (0 : Int) ≤ if c then 1 else 0 := by split <;> decide
theorem pool_t {sc : Addr} {vs : List Value} {ns : List Int} {k : Int} {tk : Tok} (C : Cx w outer h₀ L env m s.heap news) (hsc : h₀.IsList sc vs.toArray) (hns : IntsAre vs ns) (hlen : vs.length ≤ 63) (hk0 : 0 ≤ k) (hk1 : k ≤ 1)
    (hd : dp + 2 < recursionLimit) (hu : un + 60 < cLine)
    (ret : ∀ (lv : Addr) (x y : Int) (t1 t2 : Tok) n h' tk', (∀ p ∈ news, p.1 < lv) → (0 ≤ x ∧ 0 ≤ y ∧ y < 2147483647) → Fr h₀ L h' m → News h₀ L h' ((lv, src x y t1 t2 n) :: news) → Q (.ref lv) { s with heap := h', toks := tk' }) :
    wpAny (model prg w) (aT dp un gd env outer) (call (.ref 456) [.ref sc, .int k tk]) Q E s := by
  refine C.elim ?_; intro A₀ base mean mg mb B T F N X hf hk
  k_extra "FILL"
  k_extra "ENTER"
  replace F' := Fr.of_eq (mk_binds [(st "k", .int k tk), (st "script", .ref sc)]) F'
  have hsg : g'.IsList sc vs.toArray := hsc.at fun o e => FG'.keep _ o e
  have hln := hns.length
  k_steps
  · refine' ret _ _ _ _ _ _ _ _ (by assumption) ⟨?xqa, fmod_lo _ (by decide), fmod_hi _ (by decide)⟩ ?xF ?xN
    case xF => k_asm
    case xN => k_asm
    case xqa => exact Int.mul_nonneg (by split <;> omega) (ite01 _)
  · refine' ret _ _ _ _ _ _ _ _ (by assumption) ⟨?xqb, fmod_lo _ (by decide), fmod_hi _ (by decide)⟩ ?yF ?yN
    case yF => k_asm
    case yN => k_asm
    case xqb => exact Int.mul_nonneg (by split <;> omega) (ite01 _)
end

-- part p35_keq.lean
section
open PySem.Calls PyProof.V PySem.Spec
theorem keq_hits {A : Around} {s : Shared} {kb : List (Str × Value)} {tab : List (Str × Int)} (hb : All2 (KV IsInt) kb tab) : ∀ {ka : List (Str × Value)} {t : List (Str × Int)}, All2 (KV IsInt) ka t → (∀ p ∈ t, tab.lookup p.1 = some p.2) → KeqHits A s kb ka true
  | [], [], _, _ => .nil
  | (k, v) :: ka, (k', n) :: t, h, ht => by
    refine E0_2 (h.1) ?_; intro e hr7; obtain ⟨tn, hv⟩ := hr7
    dsimp only at e hv
    subst e hv
    refine E1_2 (kv_some hb (ht _ (.head _))) ?_; intro y hy hr8; obtain ⟨tn', rfl⟩ := hr8
    have f := keq_flat (A := A) (s := s) (v := .int n tn) (y := .int n tn') (d := .int n) (e := .int n) (fun h => Reads.int n tn) (fun h => Reads.int n tn')
    have e : PyData.eqv (.int n) (.int n) = true := by simp [PyData.eqv]
    rw [e] at f
    exact KeqHits.hit hy f (keq_hits hb h.2 fun p hp => ht p (.tail _ hp))
  | [], _ :: _, x, _ => x.elim
  | _ :: _, [], x, _ => x.elim
theorem lookup_of_nodup {β : Type} {tab : List (Str × β)} (h : (tab.map (·.1)).Nodup) : ∀ p ∈ tab, tab.lookup p.1 = some p.2 := fun p hp => by
  obtain ⟨i, hi⟩ := List.getElem?_of_mem hp
  exact lookup_get h hi
section
variable {w : World} {A : Around} {E : Value → Shared → Prop} {s : Shared} {h₀ : Heap} {L a b : Addr} {oa ob : Obj} {news : List (Addr × Obj)} {ka kb : List (Str × Value)} {tab : List (Str × Int)} {Q : Value → Shared → Prop}
theorem deq_same (N : News h₀ L s.heap news) (pa : (a, oa) ∈ news) (pb : (b, ob) ∈ news) (da : oa.IsDictOf (PySem.strKind prg w) ka) (db : ob.IsDictOf (PySem.strKind prg w) kb) (la : (a == sysModules) = false) (lb : (b == sysModules) = false) (ha : All2 (KV IsInt) ka tab) (hb : All2 (KV IsInt) kb tab) (hn : (tab.map (·.1)).Nodup) (hu : A.units < cLine)
    (h : Q (.bool true) s) : wpAny (model prg w) A (compareOp .Eq (.ref a) (.ref b)) Q E s := keq_pairs N pa pb da db la lb (ha.length.trans hb.length.symm) hu (keq_hits hb ha (lookup_of_nodup hn)) h
theorem dne_same (N : News h₀ L s.heap news) (pa : (a, oa) ∈ news) (pb : (b, ob) ∈ news) (da : oa.IsDictOf (PySem.strKind prg w) ka) (db : ob.IsDictOf (PySem.strKind prg w) kb) (la : (a == sysModules) = false) (lb : (b == sysModules) = false) (ha : All2 (KV IsInt) ka tab) (hb : All2 (KV IsInt) kb tab) (hn : (tab.map (·.1)).Nodup) (hu : A.units < cLine)
    (h : Q (.bool false) s) : wpAny (model prg w) A (compareOp .NotEq (.ref a) (.ref b)) Q E s := kne_pairs N pa pb da db la lb (ha.length.trans hb.length.symm) hu (keq_hits hb ha (lookup_of_nodup hn)) h
end
theorem lookup_none_map {β : Type} {k : Str} : ∀ {tab : List (Str × β)}, tab.lookup k = none → k ∉ tab.map (·.1)
  | [], _ => by simp
  | (a, b) :: tab, h => by
    rw [List.lookup_cons] at h
    cases e : k == a with
    | true => rw [e] at h; cases h
    | false =>
      rw [e] at h
      rw [List.map_cons, List.mem_cons, not_or]
      exact ⟨by simpa using e, lookup_none_map h⟩
theorem tblStep_nodup {acc : List (Str × Int)} {e : EI} (h : (acc.map (·.1)).Nodup) : ((tblStep acc e).map (·.1)).Nodup := by
  unfold tblStep
  split
  · exact h
  · split
    · rename_i k hk _ hl
      rw [List.map_append]
      refine List.nodup_append.mpr ⟨h, by simp, fun a ha b hb e => ?_⟩
      rw [List.map_singleton, List.mem_singleton] at hb
      have hb' : b = k := hb
      exact lookup_none_map hl (by rw [← hb', ← e]; exact ha)
    · exact h
theorem tbl_nodup (es : List EI) : ∀ {acc : List (Str × Int)}, (acc.map (·.1)).Nodup → ((es.foldl tblStep acc).map (·.1)).Nodup := by
  induction es with
  | nil => intro acc h; exact h
  | cons e es ih => intro acc h; exact ih (tblStep_nodup h)
theorem tblP_nodup (es : List EI) : ((tblP es).map (·.1)).Nodup := tbl_nodup es List.nodup_nil
end

-- part p36_alike.lean
section
open PySem.Calls PyProof.V PySem.Spec
local macro_rules | `(tactic| walk_at "call ref") => `(tactic| k_extra "W13")

variable (w : World) {dp un : Nat} {gd : Option (List Code)} {env : Env} {outer : List Env} {h₀ : Heap} {L : Addr} {m : Str → Option Value} {s : Shared} {Q E : Value → Shared → Prop} {news : List (Addr × Obj)}
theorem words53 : True := by
  k_with "W56" => (k_here; (try dsimp only); k_dflt (first | (refine' tree_t _ ?C ?hd ?hu ?_; (case C => k_extra "CXC"); (case hd => ktr_room); (case hu => ktr_units); k_whole; (intro tA tdA rlA tkA h' tk' l1 l2 l3 F' N'); (try k_lt l1); (try dsimp only)) | (refine' dtd_t _ ?C ?hd ?hu ?_; (case C => k_extra "CXC"); (case hd => ktr_room); (case hu => ktr_units); k_whole; (intro xD dD aD eD nD k1 k2 k3 k4 rt oA oE oN h' tk' ld1 lda ld2 loA hA F' N'); (try dsimp only)) | (refine' rule_t _ ?C ?ht ?hd ?hu ?_; (case C => k_extra "CXC"); (case ht => k_mem); (case hd => ktr_room); (case hu => ktr_units); k_whole; (intro xR dR r1 r2 r3 r4 v2 v3 v4 h' tk' lr1 lr2 F' N'); (try k_lt lr1); (try dsimp only)) | (refine' declnew_t _ ?C ?h1 ?h2 ?h3 ?U ?hA ?lo ?hz ?hv ?hd ?hu ?_; (case C => k_extra "CXC"); (case h1 => k_mem); (case h2 => k_mem); (case h3 => k_mem); (case U => k_updF); (case hA => k_asm); (case lo => k_asm); (case hz => k_extra "DSIZE"); (case hv => assumption); (case hd => ktr_room); (case hu => ktr_units); k_whole; (intro rD oR oA' h' tk' lq1 loR hA' hR' F' N'); (try dsimp only at N'); (try dsimp only)) | ((with_reducible show wpAny _ _ (call (Value.ref 295) _) _ _ _); refine stopAt ?_) | ((with_reducible show wpAny _ _ (call (Value.ref 309) _) _ _ _); refine stopAt ?_) | ((with_reducible show wpAny _ _ (call (Value.ref 344) _) _ _ _); refine stopAt ?_) | ((with_reducible show wpAny _ _ (call (Value.ref 56) _) _ _ _); refine stopAt ?_) | ((with_reducible show wpAny _ _ (call (Value.ref 49) _) _ _ _); refine stopAt ?_)))
  trivial
local macro_rules | `(tactic| walk_at "call ref") => `(tactic| k_extra "W56")

def tab1 : Tab := [(st "a", [(st "n", st "ID")])]
theorem alike_t (C : Cx w outer h₀ L env m s.heap news) (hd : dp + 10 < recursionLimit) (hu : un + 250 < cLine)
    (ret : ∀ h' tk', Fr h₀ L h' m → News h₀ L h' news → Q (.bool true) { s with heap := h', toks := tk' }) :
    wpAny (model prg w) (aT dp un gd env outer) (call (.ref 515) []) Q E s := by
  refine C.elim ?_; intro A₀ base mean mg mb B T F N X hf hk
  have hv0 : valueAt ([] : List (Str × Value)) (st "a") = none := rfl
  k_extra "FILL"
  k_extra "ENTER"
  replace F' := Fr.of_eq (show _ = mk [] from funext fun _ => rfl) F'
  k_steps
  refine goOn ?_
  have hlA := allLt_out l1
  have hnt : ∀ a : Addr, @LT.lt Nat _ a tdA ∨ @LT.lt Nat _ rlA a → a ∉ ta tA tdA rlA [] := fun a h hm => by
    simp only [ta, List.flatMap_nil, List.mem_cons, List.not_mem_nil, or_false] at hm
    rcases hm with rfl | rfl | rfl <;> omega
  rw [stored_absent hv0] at hA'
  have HD : DtdIn w ((rD, oR) :: (xR, instObj 106 dR) :: (dR, dictOf [ent w.params "kind" r1 (.str (st "ID") (tk + 1 + 1)), ent w.params "choices" r2 v2, ent w.params "mode" r3 v3, ent w.params "value" r4 v4] 4) :: (aD, oA') :: (xD, instObj 234 dD) :: (dD, dtdD w.params k1 k2 k3 k4 rt eD aD nD) :: news) xD tab1 := ⟨dD, k1, k2, k3, k4, rt, eD, aD, nD, oA', [(st "a", .ref rD)], by k_mem, by k_mem, by k_mem, loA, hA', ⟨⟨rfl, rD, oR, [(st "n", .ref xR)], rfl, by k_mem, loR, hR', ⟨⟨rfl, xR, dR, r1, r2, r3, r4, _, v2, v3, v4, rfl, by k_mem, by k_mem⟩, trivial⟩⟩, trivial⟩⟩
  have hrD := lq1 (rlA, lst [] 0) (by k_mem)
  have lq9 : @LT.lt Nat _ rlA rD := hrD
  rename News _ _ _ _ => N3
  refine' newroot_t w (tk := tkA) (rows := []) (O := (rD, oR) :: (xR, instObj 106 dR) :: (dR, dictOf [ent w.params "kind" r1 (.str (st "ID") (tk + 1 + 1)), ent w.params "choices" r2 v2, ent w.params "mode" r3 v3, ent w.params "value" r4 v4] 4) :: (aD, oA') :: (xD, instObj 234 dD) :: (dD, dtdD w.params k1 k2 k3 k4 rt eD aD nD) :: news) ?C ?W ?K (Nat.zero_lt_succ _) ?hd ?hu ?_
  case C => k_extra "CXC"
  case W =>
    refine ⟨⟨by k_mem, by k_mem, by k_mem, (fun _ h => nomatch h), Nat.zero_le _, (fun _ h => nomatch h)⟩, ?_⟩
    simp only [ta, List.flatMap_nil, List.nodup_cons, List.mem_cons, List.not_mem_nil, or_false, not_or, not_false_eq_true, List.nodup_nil, and_true]
    refine ⟨⟨?_, ?_⟩, ?_⟩ <;> k_ne
  case K => exact Keep.cons (by k_mem) (hnt _ (.inr (by omega))) (Keep.cons (by k_mem) (hnt _ (.inr (by omega))) (Keep.cons (by k_mem) (hnt _ (.inr (by omega))) (Keep.cons (by k_mem) (hnt _ (.inl (by omega))) (Keep.cons (by k_mem) (hnt _ (.inl (by omega))) (Keep.cons (by k_mem) (hnt _ (.inl (by omega))) fun p hp => ⟨by k_extra "INTAIL", hnt _ (.inl (hlA p hp))⟩)))))
  case hd => ktr_room
  case hu => ktr_units
  intro all1 S0 rn1 tn1 h3 tk3 hS0 W1 K1 F4 N4
  try k_fold
  clear N3
  have hnO : ∀ p ∈ news, p ∈ (rD, oR) :: (xR, instObj 106 dR) :: (dR, dictOf [ent w.params "kind" r1 (.str (st "ID") (tk + 1 + 1)), ent w.params "choices" r2 v2, ent w.params "mode" r3 v3, ent w.params "value" r4 v4] 4) :: (aD, oA') :: (xD, instObj 234 dD) :: (dD, dtdD w.params k1 k2 k3 k4 rt eD aD nD) :: news := fun p hp => by k_extra "INTAIL"
  generalize (rD, oR) :: (xR, instObj 106 dR) :: (dR, dictOf [ent w.params "kind" r1 (.str (st "ID") (tk + 1 + 1)), ent w.params "choices" r2 v2, ent w.params "mode" r3 v3, ent w.params "value" r4 v4] 4) :: (aD, oA') :: (xD, instObj 234 dD) :: (dD, dtdD w.params k1 k2 k3 k4 rt eD aD nD) :: news = O at HD K1 hnO
  replace W1 : TW w.params all1 tA tdA rlA rn1 tkA [S0] := W1
  replace K1 : Keep tA tdA rlA [S0] O all1 := K1
  refine E0_8 (hS0) ?_; (try clear hS0); intro s01 hz9 hz0 hz1 hz2 hz3 s07 hz4; clear hz9; clear hz0; clear hz1; clear hz2; clear hz3; clear hz4
  have mt1 := W1.T.h1
  have mt2 := W1.T.h2
  k_steps
  refine goOn ?_
  refine' addelement_t w (O := O) (R := S0) ?C W1 K1 (Int.natCast_nonneg _) rfl (.inl s01) (show 1 < 900 by decide) (by rw [s07]; exact (by decide : 0 < 900)) ?hd ?hu ?_
  case C => k_extra "CXC"
  case hd => ktr_room
  case hu => ktr_units
  intro all2 S1 rn2 tn2 kn2 h5 tk5 hS1 W2 K2 F5 N5
  try k_fold
  clear mt1 mt2
  obtain ⟨A0, a01, a02, W2, K2⟩ : ∃ A0 : NR, A0.kind = st "root" ∧ IntsAre A0.kv [1] ∧ TW w.params all2 tA tdA rlA rn2 tkA [A0, S1] ∧ Keep tA tdA rlA [A0, S1] O all2 := ⟨{ S0 with kv := S0.kv ++ [.int 1 tn2], kn := kn2 }, s01, (by show IntsAre (S0.kv ++ _) _; rw [s07]; exact .cons _ _ .nil), W2, K2⟩
  refine E0_8 (hS1) ?_; (try clear hS1); intro s11 s12 hz5 hz6 hz7 hz8 s17 s18; clear hz5; clear hz6; clear hz7; clear hz8
  have mt1 := W2.T.h1
  have mt2 := W2.T.h2
  k_steps
  refine goOn ?_
  refine' addelement_t w (O := O) (R := S1) ?C W2 K2 (Int.natCast_nonneg _) rfl (.inr s11) (show 2 < 900 by decide) (by rw [s17]; exact (by decide : 0 < 900)) ?hd ?hu ?_
  case C => k_extra "CXC"
  case hd => ktr_room
  case hu => ktr_units
  intro all3 S2 rn3 tn3 kn3 h6 tk6 hS2 W3 K3 F6 N6
  try k_fold
  clear mt1 mt2
  obtain ⟨A1, a11, a12, a13, a14, W3, K3⟩ : ∃ A1 : NR, A1.kind = st "element" ∧ A1.name = st "a" ∧ IntsAre A1.kv [2] ∧ A1.av = [] ∧ TW w.params all3 tA tdA rlA rn3 tkA [A0, A1, S2] ∧ Keep tA tdA rlA [A0, A1, S2] O all3 := ⟨{ S1 with kv := S1.kv ++ [.int 2 tn3], kn := kn3 }, s11, s12, (by show IntsAre (S1.kv ++ _) _; rw [s17]; exact .cons _ _ .nil), s18, W3, K3⟩
  refine E0_8 (hS2) ?_; (try clear hS2); intro s21 s22 hz9 hz0 hz1 hz2 s27 s28; clear hz9; clear hz0; clear hz1; clear hz2
  have mt1 := W3.T.h1
  have mt2 := W3.T.h2
  k_steps
  refine goOn ?_
  refine' setattr_t w (O := O) (R := A1) ?C W3 K3 (Int.natCast_nonneg _) rfl a11 (show 3 < 900 by decide) (by rw [a14]; exact (by decide : 0 < 900)) (by rw [a14]; exact fun _ h => nomatch h) ?hd ?hu ?_
  case C => k_extra "CXC"
  case hd => ktr_room
  case hu => ktr_units
  intro all4 B1 rn4 tn4 an4 h7 tk7 hB1 W4 K4 F7 N7
  try k_fold
  clear mt1 mt2
  obtain ⟨C1, c11, c12, c13, c14, W4, K4⟩ : ∃ C1 : NR, C1.kind = st "element" ∧ C1.name = st "a" ∧ IntsAre C1.kv [2] ∧ C1.av = [.int 3 tn4] ∧ TW w.params all4 tA tdA rlA rn4 tkA [A0, C1, S2, B1] ∧ Keep tA tdA rlA [A0, C1, S2, B1] O all4 := ⟨{ A1 with av := A1.av ++ [.int 3 tn4], an := an4 }, a11, a12, a13, (by show A1.av ++ _ = _; rw [a14]; rfl), W4, K4⟩
  refine E0_8 (hB1) ?_; (try clear hB1); intro b11 b12 hz3 b14 b15 hz4 hz5 hz6; clear hz3; clear hz4; clear hz5; clear hz6
  have mt1 := W4.T.h1
  have mt2 := W4.T.h2
  k_steps
  refine goOn ?_
  refine' setattr_t w (O := O) (R := S2) ?C W4 K4 (Int.natCast_nonneg _) rfl s21 (show 4 < 900 by decide) (by rw [s28]; exact (by decide : 0 < 900)) (by rw [s28]; exact fun _ h => nomatch h) ?hd ?hu ?_
  case C => k_extra "CXC"
  case hd => ktr_room
  case hu => ktr_units
  intro all5 B2 rn5 tn5 an5 h8 tk8 hB2 W5 K5 F8 N8
  try k_fold
  clear mt1 mt2
  obtain ⟨C2, c21, c22, c23, c24, W5, K5⟩ : ∃ C2 : NR, C2.kind = st "element" ∧ C2.name = st "a" ∧ C2.kv = [] ∧ C2.av = [.int 4 tn5] ∧ TW w.params all5 tA tdA rlA rn5 tkA [A0, C1, C2, B1, B2] ∧ Keep tA tdA rlA [A0, C1, C2, B1, B2] O all5 := ⟨{ S2 with av := S2.av ++ [.int 4 tn5], an := an5 }, s21, s22, s27, (by show S2.av ++ _ = _; rw [s28]; rfl), W5, K5⟩
  refine E0_8 (hB2) ?_; (try clear hB2); intro b21 b22 hz7 b24 b25 hz8 hz9 hz0; clear hz7; clear hz8; clear hz9; clear hz0
  have hT := W5.T
  have hV1 : (spl (st " i") ((st " i").length + 1)).1 = [st "i"] := by decide +kernel
  have hV2 : (spl (st "i ") ((st "i ").length + 1)).1 = [st "i"] := by decide +kernel
  have hE : All2 (ElemIs [A0, C1, C2, B1, B2] tab1) [1, 2] [⟨1, [(st "n", st "ID")], [⟨3, st "n", [st "i"]⟩]⟩, ⟨2, [(st "n", st "ID")], [⟨4, st "n", [st "i"]⟩]⟩] :=
    ⟨⟨C1, by decide, rfl, rfl, by rw [c12]; rfl, ⟨by decide, by decide, by decide +kernel⟩, by rw [c14]; exact ⟨⟨tn4, B1, rfl, by decide, rfl, b12, by rw [b15]; exact hV1, by rw [b15]; decide⟩, trivial⟩⟩,
      ⟨C2, by decide, rfl, rfl, by rw [c22]; rfl, ⟨by decide, by decide, by decide +kernel⟩, by rw [c24]; exact ⟨⟨tn5, B2, rfl, by decide, rfl, b22, by rw [b25]; exact hV2, by rw [b25]; decide⟩, trivial⟩⟩, trivial⟩
  have hW : WalkR [A0, C1, C2, B1, B2] [1] [1, 2] 2 := .elem (by decide) rfl c11 c13 (.elem (R := C2) (by decide) rfl c21 (by rw [c23]; exact .nil) .nil)
  have hZ : ∀ p ∈ O, p ∈ all5 := fun p hp => (K5 p hp).1
  k_steps
  refine goOn ?_
  refine' idtable_t w ?C hT (Int.natCast_nonneg _) (R := A0) rfl a02 hW (by decide) hE hZ HD ?hd ?hu ?_
  case C => k_extra "CXC"
  case hd => ktr_room
  case hu => ktr_units
  intro dT odT kvT h9 tk9 lT loT hdT hkT F9 N9
  try k_fold
  have htab : tblP [(⟨1, [(st "n", st "ID")], [⟨3, st "n", [st "i"]⟩]⟩ : EI), ⟨2, [(st "n", st "ID")], [⟨4, st "n", [st "i"]⟩]⟩] = [(st "i", 1)] := by decide +kernel
  rw [htab] at hkT
  k_steps
  rename News _ _ _ _ => N10
  rename (_ == sysModules) = false => lo10
  rename Obj.IsDictOf _ _ [(_, Value.int _ tn2)] => hd10
  refine deq_same N10 (.tail _ (.head _)) (.head _) hdT hd10 loT lo10 hkT ⟨⟨rfl, tn2, rfl⟩, trivial⟩ (by decide) ?hu2 ?_
  case hu2 => ktr_units
  replace N10 := news_sub N10 (b := all5) fun p hp => .tail _ (.tail _ hp)
  k_steps
  refine goOn ?_
  refine' idof_t w (tab := tab1) (rs := [(st "n", st "ID")]) (as := [⟨4, st "n", [st "i"]⟩]) ?C hT (Int.natCast_nonneg _) (R := C2) rfl hZ HD ?he ?nd ?hl ?ok ?ha ?hd ?hu ?_
  case C => k_extra "CXC"
  case he => rw [c22]; rfl
  case nd => decide
  case hl => decide
  case ok => decide +kernel
  case ha => rw [c24]; exact ⟨⟨tn5, B2, rfl, by decide, rfl, b22, by rw [b25]; exact hV2, by rw [b25]; decide⟩, trivial⟩
  case hd => ktr_room
  case hu => ktr_units
  intro v9 h11 tk11 hv9 F11 N11
  try k_fold
  have hid : idP [(st "n", st "ID")] [(⟨4, st "n", [st "i"]⟩ : AI)] = some (st "i") := by decide +kernel
  rw [hid] at hv9
  obtain ⟨t9, rfl⟩ := hv9
  k_steps
  rename News h₀ _ _ _ => N12
  rw [beq_self_eq_true]
  exact ret _ _ (by k_asm) (news_sub N12 fun p hp => hZ p (hnO p hp))
end

-- part p37_pure.lean
def nodeAt (lrs : List LR) (i : Nat) : Int := ((lrs[i]?.map LR.node).getD 0 : Nat)
theorem nodeAt_some {lrs : List LR} {i : Nat} {lr : LR} (h : lrs[i]? = some lr) : nodeAt lrs i = lr.node := by unfold nodeAt; rw [h]; rfl
theorem skip_txt {rows : List NR} {st out : List Int} {c : Nat} (h : WalkR rows st out c) : ∀ {tx : List Int}, TxtOk rows tx → WalkR rows (tx ++ st) out (c + tx.length)
  | [], _ => h
  | x :: tx, ht => by
    refine E0_2 (ht x (.head _)) ?_; intro h0 hr1; refine E1_2 (hr1) ?_; (try clear hr1); intro S hS hk
    exact .skip h0 hS hk (skip_txt h fun y hy => ht y (.tail _ hy))
theorem walk_ord {rows : List NR} {lrs : List LR} (b : Bld rows lrs) : ∀ (f : Nat) (ab : Option Nat), Fuel lrs.length f ab → ∀ (k i : Nat) (st out : List Int) (c : Nat), i + k = lrs.length → WalkR rows st out c →
    ∃ c', WalkR rows (((lrs.drop i).filter fun r => decide (r.above = ab)).map (fun r => (r.node : Int)) ++ st) (((List.range' i k).flatMap (ordG lrs (fun i => ordF lrs (f - 1) (some i)) ab)).map (nodeAt lrs) ++ out) c' ∧ c' ≤ c + 2 * ((List.range' i k).flatMap (ordG lrs (fun i => ordF lrs (f - 1) (some i)) ab)).length := by
  intro f
  induction f with
  | zero =>
    intro ab hf
    exfalso
    cases ab with
    | none => exact absurd hf (Nat.not_succ_le_zero _)
    | some a => have := hf.1; have := hf.2; omega
  | succ f ihf =>
    intro ab hf k
    induction k with
    | zero =>
      intro i st out c e h
      have e2 : lrs.drop i = [] := List.drop_eq_nil_of_le (by omega)
      rw [e2]
      exact ⟨c, h, Nat.le_add_right _ _⟩
    | succ k ihk =>
      intro i st out c e h
      have hlt : i < lrs.length := by omega
      have hi : lrs[i]? = some lrs[i] := List.getElem?_eq_getElem hlt
      refine E1_2 (ihk (i + 1) st out c (by omega) h) ?_; intro c1 h1 l1
      rw [List.drop_eq_getElem_cons hlt, List.range'_succ, List.flatMap_cons]
      by_cases hab : lrs[i].above = ab
      · rw [List.filter_cons_of_pos (by simpa using hab), List.map_cons]
        have hg : ordG lrs (fun i => ordF lrs (f + 1 - 1) (some i)) ab i = i :: ordF lrs f (some i) := if_pos (by rw [hi, ← hab]; rfl)
        rw [hg]
        have hfd : Fuel lrs.length f (some i) := hf.down b.ab hi hab
        obtain ⟨f', rfl⟩ : ∃ f', f = f' + 1 := by
          cases f with
          | zero => exfalso; have := hfd.1; have := hfd.2; omega
          | succ f' => exact ⟨f', rfl⟩
        refine E1_2 (ihf (some i) hfd lrs.length 0 _ _ c1 (by omega) h1) ?_; intro c2 h2 l2
        refine E1_2 (b.els i _ hi) ?_; intro tx ht hr2; refine E0_2 (hr2) ?_; (try clear hr2); intro htl hr3; refine E1_5 (hr3) ?_; (try clear hr3); intro R hR hk hnm hkv hav
        rw [List.drop_zero] at h2
        have h3 := skip_txt h2 ht
        have e3 : ordF lrs (f' + 1) (some i) = (List.range' 0 lrs.length).flatMap (ordG lrs (fun i => ordF lrs (f' + 1 - 1) (some i)) (some i)) := by
          rw [← List.range_eq_range']; rfl
        rw [e3]
        refine ⟨c2 + tx.length + 1, ?_, ?_⟩
        · rw [← List.append_assoc] at h3
          have h5 := WalkR.elem (x := (lrs[i].node : Int)) (by omega) (by rw [Int.toNat_natCast]; exact hR) hk hkv h3
          rw [List.map_append, List.map_cons, nodeAt_some hi, List.cons_append, List.cons_append, List.cons_append, List.append_assoc]
          exact h5
        · rw [List.length_append, List.length_cons]; omega
      · rw [List.filter_cons_of_neg (by simpa using hab)]
        have hg : ordG lrs (fun i => ordF lrs (f + 1 - 1) (some i)) ab i = [] := if_neg (by rw [hi]; intro e; exact hab (Option.some.inj e))
        rw [hg, List.nil_append]
        exact ⟨c1, h1, l1⟩
theorem walk_law {rows : List NR} {lrs : List LR} (b : Bld rows lrs) (hn : lrs.length ≤ 6) : ∃ c, WalkR rows (kidsOf lrs none) ((ordF lrs 7 none).map (nodeAt lrs)) c ∧ c ≤ 1000 := by
  refine E1_2 (walk_ord b 7 none (show lrs.length + 1 ≤ 7 by omega) lrs.length 0 [] [] 0 (by omega) .nil) ?_; intro c h l
  have e : ordF lrs 7 none = (List.range' 0 lrs.length).flatMap (ordG lrs (fun i => ordF lrs (7 - 1) (some i)) none) := by rw [← List.range_eq_range']; rfl
  rw [← e, List.append_nil, List.append_nil, List.drop_zero] at h
  rw [← e] at l
  have := ordF_len b.ab hn 7 none
  exact ⟨c, h, by omega⟩
theorem ord_mem {lrs : List LR} : ∀ {f : Nat} {ab : Option Nat} {a : Nat}, a ∈ ordF lrs f ab → a < lrs.length
  | 0, _, _, h => by simp [ordF] at h
  | f + 1, ab, a, h => by
    refine E1_2 (List.mem_flatMap.mp h) ?_; intro i hi ha
    unfold ordG at ha
    split at ha
    · rcases List.mem_cons.mp ha with rfl | ha
      · exact List.mem_range.mp hi
      · exact ord_mem ha
    · cases ha

-- part p38_pure2.lean
def rsOf (v : Bool) (nm : Str) : List (Str × Str) := ((tabOf v).lookup nm).getD []
theorem id_pred {rs : List (Str × Str)} (h : ∀ x, decide (rs.lookup x = some (st "ID")) = match idN rs with | none => false | some nm => decide (x = nm)) (as : List AI) : idP rs as = lidP rs as := by
  unfold idP lidP
  have e : (fun a : AI => decide (rs.lookup a.name = some (st "ID"))) = fun a => match idN rs with | none => false | some nm => decide (a.name = nm) := funext fun a => h a.name
  rw [e]
  cases idN rs with
  | none =>
    have : as.find? (fun _ => false) = none := by induction as with
      | nil => rfl
      | cons a as ih => rw [List.find?_cons]; exact ih
    simp only [this]
  | some nm => rfl
theorem id_eq3 {a b c k1 k2 k3 : Str} (x : Str) (hn : idN [(a, k1), (b, k2), (c, k3)] = some a) (h1 : k1 = st "ID") (h2 : k2 ≠ st "ID") (h3 : k3 ≠ st "ID") : decide (([(a, k1), (b, k2), (c, k3)] : List (Str × Str)).lookup x = some (st "ID")) = match idN [(a, k1), (b, k2), (c, k3)] with | none => false | some nm => decide (x = nm) := by
  rw [hn]
  by_cases ha : x = a
  · subst ha; simp [h1]
  · have e1 : (x == a) = false := beq_eq_false_iff_ne.mpr ha
    by_cases hb : x = b
    · subst hb; simp [List.lookup_cons, e1, ha, h2]
    · have e2 : (x == b) = false := beq_eq_false_iff_ne.mpr hb
      by_cases hc : x = c
      · subst hc; simp [List.lookup_cons, e1, e2, ha, h3]
      · have e3 : (x == c) = false := beq_eq_false_iff_ne.mpr hc
        simp [List.lookup_cons, e1, e2, e3, ha]
theorem id_eq2 {a b k1 k2 : Str} (x : Str) (hn : idN [(a, k1), (b, k2)] = none) (h1 : k1 ≠ st "ID") (h2 : k2 ≠ st "ID") : decide (([(a, k1), (b, k2)] : List (Str × Str)).lookup x = some (st "ID")) = match idN [(a, k1), (b, k2)] with | none => false | some nm => decide (x = nm) := by
  rw [hn]
  by_cases ha : x = a
  · subst ha; simp [h1]
  · have e1 : (x == a) = false := beq_eq_false_iff_ne.mpr ha
    by_cases hb : x = b
    · subst hb; simp [List.lookup_cons, e1, h2]
    · have e2 : (x == b) = false := beq_eq_false_iff_ne.mpr hb
      simp [List.lookup_cons, e1, e2]
structure RsLaw (v : Bool) (nm : Str) : Prop where
  at_ : (tabOf v).lookup nm = some (rsOf v nm)
  ok : RsOk (rsOf v nm)
  ok2 : ∀ p ∈ rsOf v nm, PyData.strOk p.2 = true
  id : ∀ as, idP (rsOf v nm) as = lidP (rsOf v nm) as
theorem rs_law (v : Bool) {nm : Str} (h : nm = st "a" ∨ nm = st "b") : RsLaw v nm := by
  rcases h with rfl | rfl
  · have e : rsOf v (st "a") = [(st "n", st "ID"), (st "r", st "IDREF"), (st "s", st "IDREFS")] := by cases v <;> rfl
    refine ⟨by cases v <;> rfl, ?_, ?_, ?_⟩ <;> rw [e]
    · exact ⟨by decide, by decide, by decide +kernel⟩
    · decide +kernel
    · exact id_pred fun x => id_eq3 x (by decide +kernel) rfl (by decide) (by decide)
  · cases v with
    | true =>
      have e : rsOf true (st "b") = [(st "s", st "IDREFS"), (st "r", st "NMTOKEN")] := by decide +kernel
      refine ⟨by rw [e]; decide +kernel, ?_, ?_, ?_⟩ <;> rw [e]
      · exact ⟨by decide, by decide, by decide +kernel⟩
      · decide +kernel
      · exact id_pred fun x => id_eq2 x (by decide +kernel) (by decide) (by decide)
    | false =>
      have e : rsOf false (st "b") = [(st "r", st "ID"), (st "n", st "CDATA"), (st "s", st "IDREF")] := by decide +kernel
      refine ⟨by rw [e]; decide +kernel, ?_, ?_, ?_⟩ <;> rw [e]
      · exact ⟨by decide, by decide, by decide +kernel⟩
      · decide +kernel
      · exact id_pred fun x => id_eq3 x (by decide +kernel) rfl (by decide) (by decide)
def toE (v : Bool) (lr : LR) : EI := ⟨lr.node, rsOf v lr.name, lr.as⟩
theorem AttOk_all {rows : List NR} {vs : List Value} {as : List AI} (h : All2 (AttOk rows) vs as) : All2 (AttrIs rows) vs as := h.mono fun _ _ q => q.is
theorem elem_is {rows : List NR} {lrs : List LR} (b : Bld rows lrs) (v : Bool) {i : Nat} {lr : LR} (hi : lrs[i]? = some lr) : ElemIs rows (tabOf v) lr.node (toE v lr) := by
  refine E1_2 (b.els i lr hi) ?_; intro tx hz4 hr5; clear hz4; refine E0_2 (hr5) ?_; (try clear hr5); intro hz6 hr7; clear hz6; refine E1_5 (hr7) ?_; (try clear hr7); intro R hR hz8 hn hz9 ha; clear hz8; clear hz9
  have hr := rs_law v (b.nms lr (List.mem_of_getElem? hi))
  exact ⟨R, Int.natCast_nonneg _, rfl, by rw [Int.toNat_natCast]; exact hR, by rw [hn]; exact hr.at_, hr.ok, AttOk_all ha⟩
theorem refs1_len {rs : List (Str × Str)} {a : AI} (h : a.words.length ≤ 3) : (refs1 rs a).length ≤ 3 := by
  unfold refs1
  split
  · rw [List.length_map]; exact h
  · exact Nat.zero_le _
theorem refsP_len {rs : List (Str × Str)} : ∀ {as : List AI}, (∀ a ∈ as, a.words.length ≤ 3) → (refsP rs as).length ≤ 3 * as.length
  | [], _ => Nat.le_refl _
  | a :: as, h => by
    have := refs1_len (rs := rs) (h a (.head _))
    have := refsP_len (rs := rs) fun b hb => h b (.tail _ hb)
    unfold refsP at *
    rw [List.flatMap_cons, List.length_append, List.length_cons]
    omega
theorem refsAll_len : ∀ {es : List EI}, (∀ e ∈ es, e.as.length ≤ 3 ∧ ∀ a ∈ e.as, a.words.length ≤ 3) → (refsAll es).length ≤ 9 * es.length
  | [], _ => Nat.le_refl _
  | e :: es, h => by
    have := refsP_len (rs := e.rs) (h e (.head _)).2
    have h3 := (h e (.head _)).1
    have := refsAll_len fun b hb => h b (.tail _ hb)
    unfold refsAll at *
    rw [List.flatMap_cons, List.length_append, List.length_cons]
    omega
theorem refsP_words {rs : List (Str × Str)} {as : List AI} (h : ∀ a ∈ as, ∀ u ∈ a.words, isW u) : ∀ p ∈ refsP rs as, isW p.2 := fun p hp => by
  refine E1_2 (List.mem_flatMap.mp hp) ?_; intro a ha hp
  unfold refs1 at hp
  split at hp
  · refine E1_2 (List.mem_map.mp hp) ?_; intro x hx hq0; obtain rfl := hq0
    exact h a ha x hx
  · cases hp
theorem isW_ok {x : Str} (h : isW x) : PyData.strOk x = true := by rcases h with rfl | rfl | rfl <;> decide +kernel
theorem broken_eq (es l : List EI) : brokenOf es l = (refsAll l).filter (missing es) := by
  unfold brokenOf refsAll
  rw [List.filter_flatMap]
theorem refers_mem (nm : Str) (e : EI) : refersP nm e = decide (nm ∈ (refsP e.rs e.as).map (·.2)) := by
  unfold refersP
  rw [Bool.eq_iff_iff, List.any_eq_true, decide_eq_true_iff, List.mem_map]
  constructor
  · rintro ⟨p, hp, e⟩; exact ⟨p, hp, of_decide_eq_true e⟩
  · rintro ⟨p, hp, e⟩; exact ⟨p, hp, decide_eq_true e⟩
theorem pair_dat {news : List (Addr × Obj)} : ∀ {vs : List Value} {ps : List (Int × Str)}, All2 (PairIn news) vs ps → DatAll news vs (ps.map fun p => Dat.tuple [Dat.int p.1, Dat.str p.2])
  | [], [], _ => .nil
  | v :: vs, p :: ps, h => by
    refine E4_2 (h.1) ?_; intro a n t1 t2 hq1 hm; obtain rfl := hq1
    exact .cons (.tuple (vs := [.int p.1 t1, .str p.2 t2]) hm (.cons (.int _ _) (.cons (.str _ _) .nil))) (pair_dat h.2)
  | [], _ :: _, x => x.elim
  | _ :: _, [], x => x.elim
open Classical in
theorem pairs_ne {w : World} {A : Around} {E : Value → Shared → Prop} {s : Shared} {h₀ : Heap} {L a b : Addr} {news : List (Addr × Obj)} {xs ys : List Value} {i j : Nat} {ps : List (Int × Str)} {Q : Value → Shared → Prop} (N : News h₀ L s.heap news) (ha : (a, lst xs i) ∈ news) (hb : (b, lst ys j) ∈ news) (hi : All2 (PairIn news) xs ps) (hj : All2 (PairIn news) ys ps)
    (hok : ∀ p ∈ ps, isW p.2) (hu : A.units + 64 < cLine) (h : Q (.bool false) s) : wpAny (model prg w) A (compareOp .NotEq (.ref a) (.ref b)) Q E s := by
  have ok : ∀ d ∈ ps.map (fun p => Dat.tuple [Dat.int p.1, Dat.str p.2]), kqdOk 8 d = true := fun d hd => by
    refine E1_2 (List.mem_map.mp hd) ?_; intro p hp hq2; obtain rfl := hq2
    simp [kqdOk, isW_ok (hok p hp)]
  refine kqd_ne (n₁ := news) (n₂ := news) N ha rfl rfl (pair_dat hi) (fun _ h => h) hb rfl rfl (pair_dat hj) (fun _ h => h) ok ok hu ?_
  rw [decide_eq_true rfl]
  exact h

-- part p39_lawdefs.lean
section
open PySem.Calls PyProof.V PySem.Spec
noncomputable abbrev laE (L' fa : Addr) (cd : Value) : Env := envOfC (st "law") s_34.val L' fa cd
noncomputable abbrev kB : List Stmt := forBody (b_34.val[1]?)
abbrev lwM (sc : Value) (ok osrc odtd otree oroot oord orow ofnd otold odue : Option Value) : Str → Option Value := mk [(st "due", odue), (st "told", otold), (st "found", ofnd), (st "row", orow), (st "order", oord), (st "root", oroot), (st "tree", otree), (st "dtd", odtd), (st "source", osrc), (st "k", ok), (st "script", some sc)]
structure LawS (w : World) (Z : List (Addr × Obj)) (t td rl rL kd dt : Addr) (tk : Tok) (rn rLn : Nat) (rows : List NR) (rv : List Value) (lrs : List LR) (v : Bool) : Prop where
  T : TreeIn w.params Z t td rl rn tk rows
  B : Bld rows lrs
  rs : All2 (RowIs w Z) rv lrs
  hr : (rL, lst rv rLn) ∈ Z
  K : KindsIn w Z kd (tabOf v)
  D : DtdIn w Z dt (tabOf v)
  n : lrs.length ≤ 6
theorem LawS.mono {w : World} {Z Z' : List (Addr × Obj)} {t td rl rL kd dt : Addr} {tk : Tok} {rn rLn : Nat} {rows : List NR} {rv : List Value} {lrs : List LR} {v : Bool} (s : ∀ p ∈ Z, p ∈ Z') (h : LawS w Z t td rl rL kd dt tk rn rLn rows rv lrs v) : LawS w Z' t td rl rL kd dt tk rn rLn rows rv lrs v :=
  ⟨h.T.mono s, h.B, h.rs.mono fun _ _ q => q.mono s, s _ h.hr, h.K.mono s, h.D.mono s, h.n⟩
/-- the four cells' addresses -/
def sC (L : Addr) (all : List (Addr × Obj)) : List (Addr × Obj) := strip (L + 1) (strip (L + 1 + 1) (strip (L + 1 + 1 + 1) (strip (L + 1 + 1 + 1 + 1) all)))
def OffC (L : Addr) (p : Addr × Obj) : Prop := p.1 ≠ L + 1 ∧ p.1 ≠ L + 1 + 1 ∧ p.1 ≠ L + 1 + 1 + 1 ∧ p.1 ≠ L + 1 + 1 + 1 + 1
theorem sC_sub {L : Addr} {all : List (Addr × Obj)} : ∀ p ∈ sC L all, p ∈ all := fun p hp => strip_sub p (strip_sub p (strip_sub p (strip_sub p hp)))
theorem sC_off {L : Addr} {all : List (Addr × Obj)} : ∀ p ∈ sC L all, OffC L p := fun p hp => ⟨strip_off p hp, strip_off p (strip_sub p hp), strip_off p (strip_sub p (strip_sub p hp)), strip_off p (strip_sub p (strip_sub p (strip_sub p hp)))⟩
theorem sC_mem {L : Addr} {all : List (Addr × Obj)} {p : Addr × Obj} (hp : p ∈ all) (h : OffC L p) : p ∈ sC L all := strip_of' (strip_of' (strip_of' (strip_of' hp h.2.2.2) h.2.2.1) h.2.1) h.1
theorem cellsN {h₀ h : Heap} {L M : Addr} {o1 o2 o3 o4 : Obj} {all : List (Addr × Obj)} (N : News h₀ M h all) (h1 : (L + 1, o1) ∈ all) (h2 : (L + 1 + 1, o2) ∈ all) (h3 : (L + 1 + 1 + 1, o3) ∈ all) (h4 : (L + 1 + 1 + 1 + 1, o4) ∈ all) :
    News h₀ M h ((L + 1 + 1 + 1 + 1, o4) :: (L + 1 + 1 + 1, o3) :: (L + 1 + 1, o2) :: (L + 1, o1) :: sC L all) := news_sub N fun p hp => by
  rcases List.mem_cons.mp hp with rfl | hp
  · exact h4
  rcases List.mem_cons.mp hp with rfl | hp
  · exact h3
  rcases List.mem_cons.mp hp with rfl | hp
  · exact h2
  rcases List.mem_cons.mp hp with rfl | hp
  · exact h1
  exact sC_sub p hp
/-- an object that is no cell -/
def NoCell (o : Obj) : Prop := ∀ x, o.data ≠ .cell x
theorem offC {h₀ h : Heap} {L M : Addr} {o1 o2 o3 o4 : Obj} {x1 x2 x3 x4 : Option Value} {all : List (Addr × Obj)} (N : News h₀ M h all) (h1 : (L + 1, o1) ∈ all) (h2 : (L + 1 + 1, o2) ∈ all) (h3 : (L + 1 + 1 + 1, o3) ∈ all) (h4 : (L + 1 + 1 + 1 + 1, o4) ∈ all)
    (d1 : o1.data = .cell x1) (d2 : o2.data = .cell x2) (d3 : o3.data = .cell x3) (d4 : o4.data = .cell x4) {p : Addr × Obj} (hp : p ∈ all) (hn : NoCell p.2) : OffC L p := by
  obtain ⟨a, o⟩ := p
  have key : ∀ {c : Addr} {oc : Obj} {x : Option Value}, (c, oc) ∈ all → oc.data = .cell x → a ≠ c := fun {c oc x} hc hd e => by
    subst e
    have e := Option.some.inj ((N _ hc).1.symm.trans (N _ hp).1)
    dsimp only at e
    rw [e] at hd
    exact hn x hd
  exact ⟨key h1 d1, key h2 d2, key h3 d3, key h4 d4⟩
theorem noCell_lst (vs : List Value) (n : Nat) : NoCell (lst vs n) := fun x h => by simp at h
theorem noCell_dict {w : World} {o : Obj} {kvs : List (Str × Value)} (h : o.IsDictOf (PySem.strKind prg w) kvs) : NoCell o := by
  refine E2_3 (h) ?_; (try clear h); intro _ _ _ d _
  intro x e
  rw [d] at e; simp at e
theorem noCell_inst (c d : Addr) : NoCell (instObj c d) := fun x h => by simp [instObj] at h
theorem noCell_dictOf (es : List DictEntry) (n : Nat) : NoCell (dictOf es n) := fun x h => by simp [dictOf] at h
section
variable {h₀ h : Heap} {L M : Addr} {o1 o2 o3 o4 : Obj} {x1 x2 x3 x4 : Option Value} {all : List (Addr × Obj)}
def Keeps (L : Addr) (all : List (Addr × Obj)) : Prop := ∀ p ∈ all, NoCell p.2 → OffC L p
theorem Keeps.sC (k : Keeps L all) {p : Addr × Obj} (hp : p ∈ all) (hn : NoCell p.2) : p ∈ Mine.sC L all := sC_mem hp (k p hp hn)
theorem KindsIn.sC {w : World} {kd : Addr} {tab : Tab} (k : Keeps L all) (H : KindsIn w all kd tab) : KindsIn w (Mine.sC L all) kd tab := by
  refine E2_4 (H) ?_; (try clear H); intro o kvs a b c d
  exact ⟨o, kvs, k.sC a (noCell_dict c), b, c, d.mono fun p q ⟨e, a, oa, vs, h1, h2, h3, h4, h5⟩ => ⟨e, a, oa, vs, h1, k.sC h2 (noCell_dict h4), h3, h4, h5⟩⟩
theorem DtdIn.sC {w : World} {x : Addr} {tab : Tab} (k : Keeps L all) (H : DtdIn w all x tab) : DtdIn w (Mine.sC L all) x tab := by
  refine E11_6 (H) ?_; (try clear H); intro dd k1 k2 k3 k4 rt e a n oA kvs h1 h2 h3 h4 h5 h6
  exact ⟨dd, k1, k2, k3, k4, rt, e, a, n, oA, kvs, k.sC h1 (noCell_inst _ _), k.sC h2 (noCell_dictOf _ _), k.sC h3 (noCell_dict h5), h4, h5, h6.mono fun p q ⟨e, r, o, vs, g1, g2, g3, g4, g5⟩ => ⟨e, r, o, vs, g1, k.sC g2 (noCell_dict g4), g3, g4, g5.mono fun p q ⟨e, x, d, k1, k2, k3, k4, t, v2, v3, v4, z, z1, z2⟩ => ⟨e, x, d, k1, k2, k3, k4, t, v2, v3, v4, z, k.sC z1 (noCell_inst _ _), k.sC z2 (noCell_dictOf _ _)⟩⟩⟩
theorem WordsIs.sC {v : Value} {ws : List Str} (k : Keeps L all) (H : WordsIs all v ws) : WordsIs (Mine.sC L all) v ws := by
  refine E3_3 (H) ?_; (try clear H); intro D ys n e m r
  exact ⟨D, ys, n, e, k.sC m (noCell_lst _ _), r⟩
theorem RowIs.sC {w : World} {v : Value} {lr : LR} (k : Keeps L all) (H : RowIs w all v lr) : RowIs w (Mine.sC L all) v lr := by
  refine E11_10 (H) ?_; (try clear H); intro ri nr d2 d3 o2 o3 kv2 kv3 tn tm va e a b c d f g i j l
  exact ⟨ri, nr, d2, d3, o2, o3, kv2, kv3, tn, tm, va, e, k.sC a (noCell_lst _ _), b, k.sC c (noCell_dict g), k.sC d (noCell_dict j), f, g, i.mono fun _ _ q => ⟨q.1, q.2.sC k⟩, j, l⟩
theorem TreeIn.sC {P : Params} {t td rl : Addr} {rn : Nat} {tk : Tok} {rows : List NR} (k : Keeps L all) (H : TreeIn P all t td rl rn tk rows) : TreeIn P (Mine.sC L all) t td rl rn tk rows := by
  refine ⟨k.sC H.h1 (noCell_inst _ _), k.sC H.h2 (noCell_dictOf _ _), k.sC H.h3 (noCell_lst _ _), fun R hR p hp => k.sC (H.h4 R hR p hp) ?_, H.sz, H.szk⟩
  unfold NR.led at hp
  simp only [List.mem_cons, List.not_mem_nil, or_false] at hp
  rcases hp with rfl | rfl | rfl | rfl | rfl
  · exact noCell_inst _ _
  · exact noCell_dictOf _ _
  · exact noCell_lst _ _
  · exact noCell_lst _ _
  · exact noCell_lst _ _
theorem LawS.sC {w : World} {t td rl rL kd dt : Addr} {tk : Tok} {rn rLn : Nat} {rows : List NR} {rv : List Value} {lrs : List LR} {v : Bool} (k : Keeps L all) (H : LawS w all t td rl rL kd dt tk rn rLn rows rv lrs v) : LawS w (Mine.sC L all) t td rl rL kd dt tk rn rLn rows rv lrs v :=
  ⟨H.T.sC k, H.B, H.rs.mono fun _ _ q => q.sC k, k.sC H.hr (noCell_lst _ _), H.K.sC k, H.D.sC k, H.n⟩
end
end

-- part p40_lawA.lean
section
open PySem.Calls PyProof.V PySem.Spec
local macro_rules | `(tactic| walk_at "call ref") => `(tactic| k_extra "W13")

abbrev cels (L : Addr) (o4 o3 o2 o1 : Obj) (Z : List (Addr × Obj)) : List (Addr × Obj) := (L + 1 + 1 + 1 + 1, o4) :: (L + 1 + 1 + 1, o3) :: (L + 1 + 1, o2) :: (L + 1, o1) :: Z
variable (w : World) {dp un : Nat} {gd : Option (List Code)} {A₀ : Around} {g₀ base : Heap} {mean : ExcName → Option Value} {mg mb : Str → Option Value} {L' fa : Addr} {cd : Value} {s : Shared} {E : Value → Shared → Prop} {P : Flow → Shared → Prop}
theorem words55 : True := by
  k_with "W57" => (k_here; (try dsimp only); k_dflt (first | (refine' pool_t _ ?C ?hs ?hn ?hl ?h0 ?h1 ?hd ?hu ?_; (case C => k_extra "CXC"); (case hs => assumption); (case hn => assumption); (case hl => assumption); (case h0 => assumption); (case h1 => assumption); (case hd => ktr_room); (case hu => ktr_units); k_whole; (intro lS xS yS t1 t2 nS h' tk' l1 hxy F' N'); (try k_lt l1); (try dsimp only)) | ((with_reducible show wpAny _ _ (call (Value.ref 477) _) _ _ _); refine stopAt ?_) | ((with_reducible show wpAny _ _ (call (Value.ref 489) _) _ _ _); refine stopAt ?_)))
  k_with "W58" => ((with_reducible show wpAny _ _ (execs (Stmt.Assign [Expr.Name (Str.ofString "order") _] _ _ :: _) _) _ _ _); refine stopAt ?_)
  trivial
local macro_rules | `(tactic| walk_at "call ref") => `(tactic| k_extra "W57")
local macro_rules | `(tactic| walk_at "execs cons") => `(tactic| k_extra "W58")

theorem law_A {I sc : Addr} {it o1 o2 o3 o4 : Obj} {x1 x2 x3 x4 : Option Value} {vs : List Value} {ns : List Int} {k : Int} {ti : Tok} {osrc odtd otree oroot oord orow ofnd otold odue : Option Value}
    (B : Below A₀ base [] g₀) (X : (KF w.params).In g₀) (T : Top q (looseW q loose) mean mg mb g₀)
    (F : Fr g₀ (laE L' fa cd).locals s.heap (lwM (.ref sc) (some (.int k ti)) osrc odtd otree oroot oord orow ofnd otold odue)) (N : News g₀ (laE L' fa cd).locals s.heap ((I, it) :: cels L' o4 o3 o2 o1 []))
    (hI : OffC L' (I, it)) (e1 : o1.data = .cell x1) (e2 : o2.data = .cell x2) (e3 : o3.data = .cell x3) (e4 : o4.data = .cell x4)
    (hsc : g₀.IsList sc vs.toArray) (hns : IntsAre vs ns) (hlen : vs.length ≤ 63) (hk0 : 0 ≤ k) (hk1 : k ≤ 1)
    (hd : dp + 12 < recursionLimit) (hu : un + 400 < cLine) (hP : PassesOwn (model prg w) (aT dp un gd (laE L' fa cd) []) (laE L' fa cd) E)
    (fin : ∀ (Z : List (Addr × Obj)) (t td rl rL kd dt l : Addr) (tk tr : Tok) (rn rLn : Nat) (rows : List NR) (rv : List Value) (lrs : List LR) (v : Bool) (o1 o2 : Obj) h' tk', (I, it) ∈ Z → (∀ p ∈ Z, OffC L' p) → LawS w Z t td rl rL kd dt tk rn rLn rows rv lrs v → o1.data = .cell (some (.ref kd)) → o2.data = .cell (some (.ref rL)) →
      Fr g₀ (laE L' fa cd).locals h' (lwM (.ref sc) (some (.int k ti)) (some (.ref l)) (some (.ref dt)) (some (.ref t)) (some (.int 0 tr)) oord orow ofnd otold odue) → News g₀ (laE L' fa cd).locals h' (cels L' o4 o3 o2 o1 Z) →
      wpAny (model prg w) (aT dp un gd (laE L' fa cd) []) (execs (kB.drop 3) (laE L' fa cd)) P E { s with heap := h', toks := tk' }) :
    wpAny (model prg w) (aT dp un gd (laE L' fa cd) []) (execs kB (laE L' fa cd)) P E s := by
  k_extra "FILL"
  refine E0_4 (hI) ?_; (try clear hI); intro i1 i2 i3 i4
  have i1 : @Ne Nat I (L' + 1) := i1
  have i2 : @Ne Nat I (L' + 1 + 1) := i2
  have i3 : @Ne Nat I (L' + 1 + 1 + 1) := i3
  have i4 : @Ne Nat I (L' + 1 + 1 + 1 + 1) := i4
  with_unfolding_all change wpAny _ _ (execs (_ :: _) _) _ _ _
  k_steps
  refine goOn ?_
  rename News _ _ _ _ => N3
  have hcl : ∀ p ∈ (I, it) :: cels L' o4 o3 o2 o1 [], p.1 ≠ lS := Offs.mem (by walk_at "OFFS")
  refine' rules_t w ?C hcl hxy ?hd ?hu ?_
  case C => k_extra "CXC"
  case hd => ktr_room
  case hu => ktr_units
  intro lv kd dt v R xR yR t3 t4 n1 nR h2 tk2 hxy2 hRl hlvR K0 D0 F4 N4
  try k_fold
  clear N3
  have hm := fun {p : Addr × Obj} (hp : p ∈ (I, it) :: cels L' o4 o3 o2 o1 []) => List.mem_append_right R hp
  generalize hall : R ++ ((I, it) :: cels L' o4 o3 o2 o1 []) = all1 at N4 hm
  have hR1 : ∀ p ∈ R, p ∈ all1 := fun p hp => hall ▸ List.mem_append_left _ hp
  have hl1 : ∀ p ∈ all1, p.1 ≠ lS := by
    intro p hp
    rw [← hall] at hp
    rcases List.mem_append.mp hp with hp | hp
    · exact hRl p hp
    · exact hcl p hp
  have N4' := news_sub N4 (b := all1) fun p hp => List.Mem.tail _ hp
  have c4m : (L' + 1 + 1 + 1 + 1, o4) ∈ all1 := hm (.tail _ (.head _))
  have c3m : (L' + 1 + 1 + 1, o3) ∈ all1 := hm (.tail _ (.tail _ (.head _)))
  have c2m : (L' + 1 + 1, o2) ∈ all1 := hm (.tail _ (.tail _ (.tail _ (.head _))))
  have c1m : (L' + 1, o1) ∈ all1 := hm (.tail _ (.tail _ (.tail _ (.tail _ (.head _)))))
  have kp : Keeps L' all1 := fun p hp hn => offC N4' c1m c2m c3m c4m e1 e2 e3 e4 hp hn
  have N5 := cellsN N4' c1m c2m c3m c4m
  have N6 : News g₀ L' h2 ((lS, src xR yR t3 t4 nR) :: cels L' o4 o3 o2 o1 (sC L' all1)) := fun p hp => by
    rcases List.mem_cons.mp hp with rfl | hp
    · exact N4 _ (.head _)
    · exact N5 p hp
  have hlv := kp.sC (hR1 _ hlvR) (noCell_lst _ _)
  have K1 := (K0.mono hR1).sC kp
  have D1 := (D0.mono hR1).sC kp
  have hI1 : (I, it) ∈ sC L' all1 := sC_mem (hm (.head _)) ⟨i1, i2, i3, i4⟩
  have z0 : ∀ p ∈ sC L' all1, p.1 ≠ lS := fun p hp => hl1 p (sC_sub p hp)
  have z1 : ∀ p ∈ sC L' all1, p.1 ≠ L' + 1 := fun p hp => (sC_off p hp).1
  clear N4 N4' N5
  generalize sC L' all1 = Z1 at N6 hlv K1 D1 hI1 z0 z1
  have hlr : ∀ p ∈ cels L' o4 o3 o2 o1 Z1, p.1 ≠ lS := Offs.mem (by walk_at "OFFS")
  k_steps
  refine goOn ?_
  rename News _ _ _ _ => N7
  rename Obj.data _ = Data.cell (some (Value.ref kd)) => e1'
  rename_i o1' _ _
  have hlr' : ∀ p ∈ cels L' o4 o3 o2 o1' Z1, p.1 ≠ lS := fun p hp => by
    rcases List.mem_cons.mp hp with rfl | hp
    · exact hlr _ (.head _)
    rcases List.mem_cons.mp hp with rfl | hp
    · exact hlr _ (.tail _ (.head _))
    rcases List.mem_cons.mp hp with rfl | hp
    · exact hlr _ (.tail _ (.tail _ (.head _)))
    rcases List.mem_cons.mp hp with rfl | hp
    · exact hlr (L' + 1, o1) (.tail _ (.tail _ (.tail _ (.head _))))
    · exact z0 p hp
  refine' drawn_t w ?C hlr' hxy2 ?hd ?hu ?_
  case C => k_extra "CXC"
  case hd => ktr_room
  case hu => ktr_units
  intro lv2 t td rl rL tk7 tr kk rn x7 y7 t71 t72 nl7 rv rLn Z7 O7 rows lrs n7 h7 tk77 hS hk16 hlrL hlt F7 N8
  try k_fold
  clear N7
  generalize hal2 : (lv2, lst [.ref t, .int 0 tr, .ref rL] n7) :: (lS, src x7 y7 t71 t72 nl7) :: (rL, lst rv rLn) :: Z7 = all2 at N8
  have hq1 : (lv2, lst [.ref t, .int 0 tr, .ref rL] n7) ∈ all2 := hal2 ▸ .head _
  have hq2 : (rL, lst rv rLn) ∈ all2 := hal2 ▸ .tail _ (.tail _ (.head _))
  have hq3 : ∀ p ∈ Z7, p ∈ all2 := fun p hp => hal2 ▸ .tail _ (.tail _ (.tail _ hp))
  clear hal2
  have hf : ∀ p ∈ cels L' o4 o3 o2 o1' Z1, p ∈ all2 := fun p hp => hq3 p (hS.keep p (hS.sub p hp)).1
  have hz9 : ∀ p ∈ Z1, p ∈ all2 := fun p hp => hf p (.tail _ (.tail _ (.tail _ (.tail _ hp))))
  have b4m : (L' + 1 + 1 + 1 + 1, o4) ∈ all2 := hf _ (.head _)
  have b3m : (L' + 1 + 1 + 1, o3) ∈ all2 := hf _ (.tail _ (.head _))
  have b2m : (L' + 1 + 1, o2) ∈ all2 := hf _ (.tail _ (.tail _ (.head _)))
  have b1m : (L' + 1, o1') ∈ all2 := hf _ (.tail _ (.tail _ (.tail _ (.head _))))
  have kp2 : Keeps L' all2 := fun p hp hn => offC N8 b1m b2m b3m b4m e1' e2 e3 e4 hp hn
  have S2 : LawS w all2 t td rl rL kd dt tk7 rn rLn rows rv lrs v := ⟨hS.W.T.mono hq3, hS.bld, hS.rs.mono fun _ _ q => q.mono fun p hp => hq3 p (hS.keep p hp).1, hq2, K1.mono hz9, D1.mono hz9, by rw [hS.len]; exact hk16.2⟩
  have S3 := S2.sC kp2
  have N9 := cellsN N8 b1m b2m b3m b4m
  have hI3 : (I, it) ∈ sC L' all2 := sC_mem (hz9 _ hI1) ⟨i1, i2, i3, i4⟩
  have hlv3 := kp2.sC hq1 (noCell_lst _ _)
  have hz3 : ∀ p ∈ sC L' all2, OffC L' p := sC_off
  have z2 : ∀ p ∈ sC L' all2, p.1 ≠ L' + 1 + 1 := fun p hp => (sC_off p hp).2.1
  have z1' : ∀ p ∈ sC L' all2, p.1 ≠ L' + 1 := fun p hp => (sC_off p hp).1
  clear N8 S2 hq1 hq2
  generalize sC L' all2 = Z3 at N9 hlv3 S3 hI3 hz3 z2 z1'
  k_steps
  refine goOn ?_
  rename News _ _ _ _ => N10
  rename Fr g₀ _ _ _ => F10
  rename Obj.data _ = Data.cell (some (Value.ref rL)) => e2'
  exact fin Z3 t td rl rL kd dt lS tk7 tr rn rLn rows rv lrs v _ _ _ _ hI3 hz3 S3 e1' e2' (Fr.of_eq (by k_extra "MAP") F10) N10
end

-- part p41_lawB.lean
section
open LCg LCt PySem.Calls PyProof.V PySem.Spec
local macro_rules | `(tactic| walk_at "call ref") => `(tactic| k_extra "W13")

def lrAt (lrs : List LR) (i : Nat) : LR := (lrs[i]?).getD ⟨0, st "", [], none⟩
theorem lrAt_some {lrs : List LR} {i : Nat} {lr : LR} (h : lrs[i]? = some lr) : lrAt lrs i = lr := by unfold lrAt; rw [h]; rfl
theorem cels_sub {L : Addr} {o4 o3 o2 o1 : Obj} {Z all : List (Addr × Obj)} (h4 : (L + 1 + 1 + 1 + 1, o4) ∈ all) (h3 : (L + 1 + 1 + 1, o3) ∈ all) (h2 : (L + 1 + 1, o2) ∈ all) (h1 : (L + 1, o1) ∈ all) (hz : ∀ p ∈ Z, p ∈ all) : ∀ p ∈ cels L o4 o3 o2 o1 Z, p ∈ all := fun p hp => by
  rcases List.mem_cons.mp hp with rfl | hp
  · exact h4
  rcases List.mem_cons.mp hp with rfl | hp
  · exact h3
  rcases List.mem_cons.mp hp with rfl | hp
  · exact h2
  rcases List.mem_cons.mp hp with rfl | hp
  · exact h1
  exact hz p hp
variable (w : World) {dp un : Nat} {gd : Option (List Code)} {A₀ : Around} {g₀ base : Heap} {mean : ExcName → Option Value} {mg mb : Str → Option Value} {L' fa : Addr} {cd : Value} {s : Shared} {E : Value → Shared → Prop} {P : Flow → Shared → Prop}
    {Z : List (Addr × Obj)} {t td rl rL kd dt : Addr} {tk : Tok} {rn rLn : Nat} {rows : List NR} {rv : List Value} {lrs : List LR} {v : Bool} {o1 o2 o3 o4 : Obj} {x1 x3 x4 : Option Value}
theorem words57 : True := by
  k_with "W59" => (k_here; (with_reducible show wpAny _ _ (call (Value.ref 496) _) _ _ _); refine stopAt ?_)
  k_with "W60" => ((with_reducible show wpAny _ _ (execs (Stmt.If (Expr.Compare (Expr.Call (Expr.Name (Str.ofString "walk_elements") _) _ _ _) _ _ _) _ _ _ :: _) _) _ _ _); refine stopAt ?_)
  trivial
local macro_rules | `(tactic| walk_at "call ref") => `(tactic| k_extra "W59")
local macro_rules | `(tactic| walk_at "execs cons") => `(tactic| k_extra "W60")

local macro_rules | `(tactic| walk_at "PAD") => `(tactic| fail)
theorem law_B {sc ok osrc odtd otree oroot oord orow ofnd otold odue}
    (B : Below A₀ base [] g₀) (X : (KF w.params).In g₀) (T : Top q (looseW q loose) mean mg mb g₀)
    (F : Fr g₀ (laE L' fa cd).locals s.heap (lwM sc ok osrc odtd otree oroot oord orow ofnd otold odue)) (N : News g₀ (laE L' fa cd).locals s.heap (cels L' o4 o3 o2 o1 Z)) (hz : ∀ p ∈ Z, OffC L' p) (S : LawS w Z t td rl rL kd dt tk rn rLn rows rv lrs v) (e2 : o2.data = .cell (some (.ref rL)))
    (hd : dp + 12 < recursionLimit) (hu : un + 400 < cLine) (hP : PassesOwn (model prg w) (aT dp un gd (laE L' fa cd) []) (laE L' fa cd) E)
    (fin : ∀ (lo : Addr) (ov : List Value) (n : Nat) (Z' : List (Addr × Obj)) h' tk', (∀ p ∈ Z, p ∈ Z') → (∀ p ∈ Z', OffC L' p) → (lo, lst ov n) ∈ Z' → All2 (RowIs w Z') ov ((ordF lrs 7 none).map (lrAt lrs)) →
      Fr g₀ (laE L' fa cd).locals h' (lwM sc ok osrc odtd otree oroot (some (.ref lo)) orow ofnd otold odue) → News g₀ (laE L' fa cd).locals h' (cels L' o4 o3 o2 o1 Z') →
      wpAny (model prg w) (aT dp un gd (laE L' fa cd) []) (execs (kB.drop 4) (laE L' fa cd)) P E { s with heap := h', toks := tk' }) :
    wpAny (model prg w) (aT dp un gd (laE L' fa cd) []) (execs (kB.drop 3) (laE L' fa cd)) P E s := by
  k_extra "FILL"
  have hr := S.hr
  have hrl := S.rs.length
  have hn6 := S.n
  with_unfolding_all change wpAny _ _ (execs (_ :: _) _) _ _ _
  k_steps
  refine goOn ?_
  refine' order_t w S.B.ab S.n 7 (O := Z) (ab := none) ?C ?hm ?hs S.rs rfl (show lrs.length + 1 ≤ 7 from by have := S.n; omega) ?hd ?hu ?_
  case C => k_extra "CXC"
  case hm => k_mem
  case hs => exact fun p hp => .tail _ (.tail _ (.tail _ (.tail _ hp)))
  case hd => ktr_room
  case hu => ktr_units
  intro l9 vs9 n9 h9 tk9 hl9 hvs9 F9 N9
  try k_fold
  have hvl := hvs9.length
  have hol := ordF_len S.B.ab S.n 7 none
  rw [List.length_map] at hvl
  k_steps
  refine goOn ?_
  rename News _ _ _ _ => N3
  rename Fr g₀ _ _ _ => F3
  refine' comp_list_J (fun i ys n => n = (l9, lst vs9 n9) :: cels L' o4 o3 o2 o1 Z ∧ All2 (RowIs w Z) ys (((ordF lrs 7 none).take i).map (lrAt lrs))) rfl F3 N3 (.head _) (by omega) ⟨rfl, trivial⟩ (goOn ?turn) (goOn ?fin2)
  case turn =>
    intro s1 j ys2 n2 v2 I2 oI Cc oC D2 m2 h4 tk4 E2 hj hv2 hJ2 hCc hx2 F5 N5 hoff2 hne2
    try k_fold
    obtain ⟨rfl, hp2⟩ := hJ2
    refine E2_2 (ints_get hvs9 hv2) ?_; intro x tx hq3 hx; obtain rfl := hq3
    rw [List.getElem?_map] at hx
    cases ho : (ordF lrs 7 none)[j]? with
    | none => rw [ho] at hx; cases hx
    | some a =>
      rw [ho] at hx
      obtain rfl : (a : Int) = x := by simpa using hx
      have hal := ord_mem (List.mem_of_getElem? ho)
      have hag : lrs[a]? = some lrs[a] := List.getElem?_eq_getElem hal
      have hrg : a < rv.length := by omega
      refine E1_2 (S.rs.get (List.getElem?_eq_getElem hrg)) ?_; intro lr9 hlr9 hrow
      have hrow2 := hrow
      refine E11_2 (hrow2) ?_; (try clear hrow2); intro ri nr d2 d3 o2' o3' kv2 kv3 tn9 tm9 va9 hve hz4; clear hz4
      have hv9 : rv[((a : Int)).toNat]? = some (.ref ri) := by rw [Int.toNat_natCast, List.getElem?_eq_getElem hrg, hve]
      have hla := lrAt_some hlr9
      k_steps
      refine CEnd.fin _ F5 N5 (fun p hp => hp) hoff2 (.inr ⟨_, .head _, rfl, _, rfl⟩) ⟨rfl, ?_⟩
      rw [List.take_succ, ho, List.map_append]
      refine All2.append hp2 ⟨?_, trivial⟩
      rw [hla, ← hve]
      exact hrow
  case fin2 =>
    intro g ys2 n2 hJ2
    obtain ⟨rfl, hp2⟩ := hJ2
    rw [hvl, List.take_length] at hp2
    k_steps
    refine goOn ?_
    rename News _ _ _ _ => N7
    rename Fr g₀ _ _ _ => F7
    rename_i Dn _ _ on
    refine fin Dn ys2 ys2.length ((Dn, lst ys2 ys2.length) :: Z) _ _ (fun p hp => .tail _ hp) (fun p hp => ?_) (.head _) (hp2.mono fun _ _ q => q.mono fun p hp => .tail _ hp) (Fr.of_eq (by k_extra "MAP") F7) (news_sub N7 (cels_sub (.tail _ (.tail _ (.head _))) (.tail _ (.tail _ (.tail _ (.head _)))) (.tail _ (.tail _ (.tail _ (.tail _ (.head _))))) (.tail _ (.tail _ (.tail _ (.tail _ (.tail _ (.head _)))))) fun p hp => ?_))
    · rcases List.mem_cons.mp hp with rfl | hp
      · exact ⟨Ne.symm on.2.2.2.2.1, Ne.symm on.2.2.2.1, Ne.symm on.2.2.1, Ne.symm on.2.1⟩
      · exact hz p hp
    · rcases List.mem_cons.mp hp with rfl | hp
      · exact List.mem_cons.mpr (.inl rfl)
      · exact .tail _ (.tail _ (.tail _ (.tail _ (.tail _ (.tail _ hp)))))
end

-- part p42_lawC.lean
section
open LCg LCt PySem.Calls PyProof.V PySem.Spec
local macro_rules | `(tactic| walk_at "call ref") => `(tactic| k_extra "W13")

theorem nodeAt_lrAt (lrs : List LR) (a : Nat) : ((lrAt lrs a).node : Int) = nodeAt lrs a := by
  unfold lrAt nodeAt
  cases lrs[a]? <;> rfl
theorem lr_nodes (lrs : List LR) (l : List Nat) : (l.map (lrAt lrs)).map (fun r => (r.node : Int)) = l.map (nodeAt lrs) := by
  rw [List.map_map]
  exact List.map_congr_left fun a _ => nodeAt_lrAt lrs a
theorem walk_root {rows : List NR} {lrs : List LR} (b : Bld rows lrs) (hn : lrs.length ≤ 6) : ∃ R c, rows[((0 : Int)).toNat]? = some R ∧ IntsAre R.kv (kidsOf lrs none) ∧ WalkR rows (kidsOf lrs none) ((ordF lrs 7 none).map (nodeAt lrs)) c ∧ c ≤ 1000 := by
  refine E1_3 (b.root) ?_; intro R h1 hz5 h3; clear hz5
  refine E1_2 (walk_law b hn) ?_; intro c h l
  exact ⟨R, c, h1, h3, h, l⟩
variable (w : World) {dp un : Nat} {gd : Option (List Code)} {A₀ : Around} {g₀ base : Heap} {mean : ExcName → Option Value} {mg mb : Str → Option Value} {L' fa : Addr} {cd : Value} {s : Shared} {E : Value → Shared → Prop} {P : Flow → Shared → Prop}
    {Z : List (Addr × Obj)} {t td rl rL kd dt : Addr} {tk : Tok} {rn rLn : Nat} {rows : List NR} {rv : List Value} {lrs : List LR} {v : Bool} {o1 o2 o3 o4 : Obj}
theorem words59 : True := by
  k_with "W61" => (k_here; (with_reducible show wpAny _ _ (call (Value.ref 42) _) _ _ _); refine stopAt ?_)
  k_with "W62" => ((with_reducible show wpAny _ _ (execs (Stmt.Assign [Expr.Tuple [Expr.Name (Str.ofString "table") _, _] _ _] _ _ :: _) _) _ _ _); refine stopAt ?_)
  trivial
local macro_rules | `(tactic| walk_at "compareOp NotEq ref ref") => `(tactic| k_extra "W33")
local macro_rules | `(tactic| walk_at "call ref") => `(tactic| k_extra "W61")
local macro_rules | `(tactic| walk_at "execs cons") => `(tactic| k_extra "W62")

local macro_rules | `(tactic| walk_at "PAD") => `(tactic| fail)
theorem law_C {sc ok osrc odtd orow ofnd otold odue} {tr : Tok} {lo : Addr} {ov : List Value} {no : Nat}
    (B : Below A₀ base [] g₀) (X : (KF w.params).In g₀) (T : Top q (looseW q loose) mean mg mb g₀)
    (F : Fr g₀ (laE L' fa cd).locals s.heap (lwM sc ok osrc odtd (some (.ref t)) (some (.int 0 tr)) (some (.ref lo)) orow ofnd otold odue)) (N : News g₀ (laE L' fa cd).locals s.heap (cels L' o4 o3 o2 o1 Z)) (S : LawS w Z t td rl rL kd dt tk rn rLn rows rv lrs v)
    (ho : (lo, lst ov no) ∈ Z) (hov : All2 (RowIs w Z) ov ((ordF lrs 7 none).map (lrAt lrs)))
    (hd : dp + 12 < recursionLimit) (hu : un + 400 < cLine) (hP : PassesOwn (model prg w) (aT dp un gd (laE L' fa cd) []) (laE L' fa cd) E)
    (fin : ∀ h' tk', Fr g₀ (laE L' fa cd).locals h' (lwM sc ok osrc odtd (some (.ref t)) (some (.int 0 tr)) (some (.ref lo)) orow ofnd otold odue) → News g₀ (laE L' fa cd).locals h' (cels L' o4 o3 o2 o1 Z) →
      wpAny (model prg w) (aT dp un gd (laE L' fa cd) []) (execs (kB.drop 5) (laE L' fa cd)) P E { s with heap := h', toks := tk' }) :
    wpAny (model prg w) (aT dp un gd (laE L' fa cd) []) (execs (kB.drop 4) (laE L' fa cd)) P E s := by
  k_extra "FILL"
  have hn6 := S.n
  have hT := S.T
  refine E2_4 (walk_root S.B S.n) ?_; intro R0 c0 hR0 hk0 hW0 hc0
  with_unfolding_all change wpAny _ _ (execs (_ :: _) _) _ _ _
  k_steps
  refine goOn ?_
  refine' walk_t w ?C (hT.mono ?hs) (Int.le_refl 0) hR0 hk0 hW0 hc0 ?hd ?hu ?_
  case C => k_extra "CXC"
  case hs => exact fun p hp => .tail _ (.tail _ (.tail _ (.tail _ hp)))
  case hd => ktr_room
  case hu => ktr_units
  intro lw vw nw h9 tk9 hl9 hvw F9 N9
  try k_fold
  have hvl := hov.length
  have hol := ordF_len S.B.ab S.n 7 none
  rw [List.length_map] at hvl
  k_steps
  refine goOn ?_
  rename News _ _ _ _ => N3
  rename Fr g₀ _ _ _ => F3
  refine' comp_list_J (fun i ys n => n = (lw, lst vw nw) :: cels L' o4 o3 o2 o1 Z ∧ IntsAre ys ((((ordF lrs 7 none).map (lrAt lrs)).take i).map fun r => (r.node : Int))) rfl F3 N3 (.tail _ (.tail _ (.tail _ (.tail _ (.tail _ ho))))) (by omega) ⟨rfl, .nil⟩ (goOn ?turn) (goOn ?fin2)
  case turn =>
    intro s1 j ys2 n2 v2 I2 oI Cc oC D2 m2 h4 tk4 E2 hj hv2 hJ2 hCc hx2 F5 N5 hoff2 hne2
    try k_fold
    obtain ⟨rfl, hp2⟩ := hJ2
    refine E1_2 (hov.get hv2) ?_; intro lr9 hlr9 hr6; refine E11_3 (hr6) ?_; (try clear hr6); intro ri nr d2 d3 o2' o3' kv2 kv3 tn9 tm9 va9 hq7 hrm hz8; obtain rfl := hq7; clear hz8
    k_steps
    refine CEnd.fin _ F5 N5 (fun p hp => hp) hoff2 (.inr ⟨_, .tail _ (.tail _ (.tail _ (.tail _ (.tail _ ho)))), rfl, _, rfl⟩) ⟨rfl, ?_⟩
    rw [List.take_succ, hlr9, List.map_append]
    exact ints_append hp2 (.cons _ _ .nil)
  case fin2 =>
    intro g ys2 n2 hJ2
    obtain ⟨rfl, hp2⟩ := hJ2
    rw [hvl, ← List.length_map (as := ordF lrs 7 none) (lrAt lrs), List.take_length, lr_nodes] at hp2
    k_steps
    refine goOn ?_
    rename News _ _ _ _ => N7
    refine ke_ne_ints (isList_mem N7 (.tail _ (.head _))) (isList_mem N7 (.head _)) hvw hp2 ?un ?_
    case un => ktr_units
    rw [decide_eq_true rfl, Bool.not_true]
    k_steps
    refine goOn ?_
    rename News _ _ _ _ => N8
    rename Fr g₀ _ _ _ => F8
    exact fin _ _ F8 (news_sub N8 fun p hp => .tail _ (.tail _ hp))
end

-- part p43_lawD2.lean
section
open PySem.Calls PyProof.V PySem.Spec
local macro_rules | `(tactic| walk_at "call ref") => `(tactic| k_extra "W13")

noncomputable abbrev rowB : List Stmt := forBody (kB[6]?)
/-- strip the dict, the iterator and the cells -/
def sD (L dT I : Addr) (all : List (Addr × Obj)) : List (Addr × Obj) := strip dT (strip I (sC L all))
theorem sD_sub {L dT I : Addr} {all : List (Addr × Obj)} : ∀ p ∈ sD L dT I all, p ∈ all := fun p hp => sC_sub p (strip_sub p (strip_sub p hp))
theorem sD_mem {L dT I : Addr} {all : List (Addr × Obj)} {p : Addr × Obj} (hp : p ∈ all) (h : OffC L p) (h1 : p.1 ≠ I) (h2 : p.1 ≠ dT) : p ∈ sD L dT I all := strip_of' (strip_of' (sC_mem hp h) h1) h2
theorem cls_ne {h₀ h : Heap} {L a b : Addr} {o o' : Obj} {all : List (Addr × Obj)} (N : News h₀ L h all) (ha : (a, o) ∈ all) (hb : (b, o') ∈ all) (hc : o.cls ≠ o'.cls) : a ≠ b := fun e => by
  subst e
  have e := Option.some.inj ((N _ ha).1.symm.trans (N _ hb).1)
  exact hc (congrArg Obj.cls e)
theorem dict_cls {w : World} {o : Obj} {kvs : List (Str × Value)} (h : o.IsDictOf (PySem.strKind prg w) kvs) : o.cls = .type "dict" := by
  refine E2_2 (h) ?_; (try clear h); intro _ _ hp9 _; obtain ⟨c, _⟩ := hp9
  exact c
variable (w : World) {dp un : Nat} {gd : Option (List Code)} {A₀ : Around} {g₀ base : Heap} {mean : ExcName → Option Value} {mg mb : Str → Option Value} {L' fa : Addr} {cd : Value} {s : Shared} {E : Value → Shared → Prop} {P : Flow → Shared → Prop}
    {Z Zi : List (Addr × Obj)} {t td rl rL kd dt : Addr} {tk : Tok} {rn rLn : Nat} {rows : List NR} {rv : List Value} {lrs : List LR} {v : Bool} {o1 o2 o3 o4 : Obj}
theorem words61 : True := by
  k_with "W63" => (k_here; (with_reducible show wpAny _ _ (call (Value.ref 508) _) _ _ _); refine stopAt ?_)
  trivial
local macro_rules | `(tactic| walk_at "call ref") => `(tactic| k_extra "W63")
local macro_rules | `(tactic| walk_at "binaryOp Add ref ref") => `(tactic| (k_extra "W55"; intro D' h' l1 F' N'; (try k_lt l1)))

theorem law_D2 {I dT lf : Addr} {it oT : Obj} {kvT : List (Str × Value)} {fv : List Value} {nf : Nat} {lr : LR} {vr : Value} {ps : List (Int × Str)} {x2 x3 x4 : Option Value} {sc ok osrc odtd otree oroot oord orow otold odue}
    (B : Below A₀ base [] g₀) (X : (KF w.params).In g₀) (T : Top q (looseW q loose) mean mg mb g₀)
    (F : Fr g₀ (laE L' fa cd).locals s.heap (lwM sc ok osrc odtd otree oroot oord (some orow) (some (.ref lf)) otold odue)) (N : News g₀ (laE L' fa cd).locals s.heap ((I, it) :: (dT, oT) :: cels L' o4 o3 o2 o1 Zi)) (hor : orow = vr)
    (hz : ∀ p ∈ Zi, OffC L' p ∧ p.1 ≠ I ∧ p.1 ≠ dT) (hIc : OffC L' (I, it)) (hTc : OffC L' (dT, oT)) (hIT : @Ne Nat I dT) (hic : it.cls = .type "list_iterator") (hTD : oT.IsDictOf (PySem.strKind prg w) kvT) (hZ : ∀ p ∈ Z, p ∈ Zi) (K : KindsIn w Z kd (tabOf v)) (hr : RowIs w Z vr lr) (hat : AtsOk lr.as) (hrs : RsLaw v lr.name)
    (e1 : o1.data = .cell (some (.ref kd))) (e2 : o2.data = .cell x2) (e3 : o3.data = .cell x3) (e4 : o4.data = .cell x4) (hf : (lf, lst fv nf) ∈ Zi) (hfv : All2 (PairIn Zi) fv ps) (hps : ps.length ≤ 900)
    (hd : dp + 12 < recursionLimit) (hu : un + 400 < cLine) (hP : PassesOwn (model prg w) (aT dp un gd (laE L' fa cd) []) (laE L' fa cd) E)
    (fin : ∀ h' tk' (lf : Addr) (fv : List Value) (nf : Nat) Z', (∀ p ∈ Zi, p ∈ Z') → (∀ p ∈ Z', OffC L' p ∧ p.1 ≠ I ∧ p.1 ≠ dT) → (lf, lst fv nf) ∈ Z' → All2 (PairIn Z') fv (ps ++ refsP (rsOf v lr.name) lr.as) →
      Fr g₀ (laE L' fa cd).locals h' (lwM sc ok osrc odtd otree oroot oord (some orow) (some (.ref lf)) otold odue) → News g₀ (laE L' fa cd).locals h' ((I, it) :: (dT, oT) :: cels L' o4 o3 o2 o1 Z') → P .next { s with heap := h', toks := tk' }) :
    wpAny (model prg w) (aT dp un gd (laE L' fa cd) []) (execs (rowB.drop 3) (laE L' fa cd)) P E s := by
  subst hor
  k_extra "FILL"
  with_unfolding_all change wpAny _ _ (execs (_ :: []) _) _ _ _
  have hup : ∀ p ∈ Z, p ∈ (I, it) :: (dT, oT) :: cels L' o4 o3 o2 o1 Zi := fun p hp => .tail _ (.tail _ (.tail _ (.tail _ (.tail _ (.tail _ (hZ p hp))))))
  have hrl := refsP_len (rs := rsOf v lr.name) fun a ha => (hat.2.2 a ha).2.1
  have hal := hat.2.1
  k_steps
  refine goOn ?_
  refine' lawrefs_t w ?C hup hup K hrs.at_ hr hat hrs.ok2 (by omega) ?hd ?hu ?_
  case C => k_extra "CXC"
  case hd => ktr_room
  case hu => ktr_units
  intro l9 vs9 n9 Z9 h9 tk9 hsub9 hp9 F9 N9
  try k_fold
  generalize hal9 : (l9, lst vs9 n9) :: Z9 = all at N9
  have a1 : (l9, lst vs9 n9) ∈ all := hal9 ▸ .head _
  have a2 : ∀ p ∈ Z9, p ∈ all := fun p hp => hal9 ▸ .tail _ hp
  clear hal9
  have a3 : ∀ p ∈ (I, it) :: (dT, oT) :: cels L' o4 o3 o2 o1 Zi, p ∈ all := fun p hp => a2 p (hsub9 p hp)
  have mI := a3 _ (.head _)
  have mT := a3 _ (.tail _ (.head _))
  have m4 := a3 _ (.tail _ (.tail _ (.head _)))
  have m3 := a3 _ (.tail _ (.tail _ (.tail _ (.head _))))
  have m2 := a3 _ (.tail _ (.tail _ (.tail _ (.tail _ (.head _)))))
  have m1 := a3 _ (.tail _ (.tail _ (.tail _ (.tail _ (.tail _ (.head _))))))
  have mZ : ∀ p ∈ Zi, p ∈ all := fun p hp => a3 p (.tail _ (.tail _ (.tail _ (.tail _ (.tail _ (.tail _ hp))))))
  have hTcls := dict_cls hTD
  have kp : Keeps L' all := fun p hp hn => offC N9 m1 m2 m3 m4 e1 e2 e3 e4 hp hn
  have hq : ∀ {a : Addr} {o : Obj}, (a, o) ∈ all → NoCell o → o.cls ≠ .type "list_iterator" → o.cls ≠ .type "dict" → (a, o) ∈ sD L' dT I all := fun {a o} hm hn h1 h2 =>
    sD_mem hm (kp _ hm hn) (cls_ne N9 hm mI (by rw [hic]; exact h1)) (cls_ne N9 hm mT (by rw [hTcls]; exact h2))
  have b1 := hq a1 (noCell_lst _ _) (by simp) (by simp)
  have b2 : All2 (PairIn (sD L' dT I all)) vs9 (refsP (rsOf v lr.name) lr.as) := hp9.mono fun _ _ ⟨a, n, t1, t2, e, m⟩ => ⟨a, n, t1, t2, e, hq (a2 _ m) (fun x h => by simp at h) (by simp) (by simp)⟩
  have b3 : ∀ p ∈ Zi, p ∈ sD L' dT I all := fun p hp => sD_mem (mZ p hp) (hz p hp).1 (hz p hp).2.1 (hz p hp).2.2
  have b4 : ∀ p ∈ sD L' dT I all, OffC L' p ∧ p.1 ≠ I ∧ p.1 ≠ dT := fun p hp => ⟨sC_off p (strip_sub p (strip_sub p hp)), strip_off p (strip_sub p hp), strip_off p hp⟩
  have N10 : News g₀ L' h9 ((I, it) :: (dT, oT) :: cels L' o4 o3 o2 o1 (sD L' dT I all)) := news_sub N9 fun p hp => by
    rcases List.mem_cons.mp hp with rfl | hp
    · exact mI
    rcases List.mem_cons.mp hp with rfl | hp
    · exact mT
    exact cels_sub m4 m3 m2 m1 (fun p hp => sD_sub p hp) p hp
  clear N9
  generalize sD L' dT I all = Zs at b1 b2 b3 b4 N10
  have hlf := b3 _ hf
  have hfl := hfv.length
  have hvl := b2.length
  k_steps
  rename News _ _ _ _ => N11
  rename Fr g₀ _ _ _ => F11
  rename_i Dn _ g1 g2 g3 g4 g5 g6 _ _
  refine fin _ _ Dn (fv ++ vs9) 0 ((Dn, lst (fv ++ vs9) 0) :: Zs) (fun p hp => .tail _ (b3 p hp)) (fun p hp => ?_) (.head _) (All2.append (hfv.mono fun _ _ q => q.mono fun p hp => .tail _ (b3 p hp)) (b2.mono fun _ _ q => q.mono fun p hp => .tail _ hp)) (Fr.of_eq (by k_extra "MAP") F11) (news_sub N11 fun p hp => ?_)
  · rcases List.mem_cons.mp hp with rfl | hp
    · exact ⟨⟨Nat.ne_of_gt g6, Nat.ne_of_gt g5, Nat.ne_of_gt g4, Nat.ne_of_gt g3⟩, Nat.ne_of_gt g1, Nat.ne_of_gt g2⟩
    · exact b4 p hp
  · rcases List.mem_cons.mp hp with rfl | hp
    · exact .tail _ (.head _)
    rcases List.mem_cons.mp hp with rfl | hp
    · exact .tail _ (.tail _ (.head _))
    refine cels_sub (.tail _ (.tail _ (.tail _ (.head _)))) (.tail _ (.tail _ (.tail _ (.tail _ (.head _))))) (.tail _ (.tail _ (.tail _ (.tail _ (.tail _ (.head _)))))) (.tail _ (.tail _ (.tail _ (.tail _ (.tail _ (.tail _ (.head _))))))) (fun p hp => ?_) p hp
    rcases List.mem_cons.mp hp with rfl | hp
    · exact .head _
    · exact .tail _ (.tail _ (.tail _ (.tail _ (.tail _ (.tail _ (.tail _ hp))))))
end

-- part p44_lawD.lean
section
open PySem.Calls PyProof.V PySem.Spec
local macro_rules | `(tactic| walk_at "call ref") => `(tactic| k_extra "W13")

variable (w : World) {dp un : Nat} {gd : Option (List Code)} {A₀ : Around} {g₀ base : Heap} {mean : ExcName → Option Value} {mg mb : Str → Option Value} {L' fa : Addr} {cd : Value} {s : Shared} {E : Value → Shared → Prop} {P : Flow → Shared → Prop}
    {Z : List (Addr × Obj)} {t td rl rL kd dt : Addr} {tk : Tok} {rn rLn : Nat} {rows : List NR} {rv : List Value} {lrs : List LR} {v : Bool} {o1 o2 o3 o4 : Obj}
theorem words63 : True := by
  k_with "W64" => (k_here; first | ((with_reducible show wpAny _ _ (call (Value.ref 503) _) _ _ _); refine stopAt ?_) | ((with_reducible show wpAny _ _ (call (Value.ref 49) _) _ _ _); refine stopAt ?_))
  k_with "W65" => first | ((with_reducible show wpAny _ _ (execs (Stmt.Assign [Expr.Name (Str.ofString "found") _] _ _ :: _) _) _ _ _); refine stopAt ?_) | ((with_reducible show wpAny _ _ (execs (Stmt.If (Expr.Compare (Expr.Call (Expr.Name (Str.ofString "id_table") _) _ _ _) _ _ _) _ _ _ :: _) _) _ _ _); refine stopAt ?_)
  trivial
local macro_rules | `(tactic| walk_at "call ref") => `(tactic| k_extra "W64")
local macro_rules | `(tactic| walk_at "execs cons") => `(tactic| k_extra "W65")

abbrev olr (lrs : List LR) : List LR := (ordF lrs 7 none).map (lrAt lrs)
abbrev esL (v : Bool) (lrs : List LR) : List EI := (olr lrs).map (toE v)
theorem olr_at {lrs : List LR} {i : Nat} {lr : LR} (h : (olr lrs)[i]? = some lr) : ∃ a : Nat, lrs[a]? = some lr := by
  rw [List.getElem?_map] at h
  cases ho : (ordF lrs 7 none)[i]? with
  | none => rw [ho] at h; cases h
  | some a =>
    rw [ho] at h
    have hal := ord_mem (List.mem_of_getElem? ho)
    have hag : lrs[a]? = some lrs[a] := List.getElem?_eq_getElem hal
    have e : lrAt lrs a = lr := by simpa using h
    rw [lrAt_some hag] at e
    exact ⟨a, by rw [hag, e]⟩
def rowJ (w : World) (L' dT : Addr) (o4 o3 o2 o1 : Obj) (v : Bool) (es : List EI) (Z : List (Addr × Obj)) (sc : Value) (ok osrc odtd otree oroot oord odue : Option Value) : Jt := fun i m n => ∃ orow otold lf fv nf oT kvT Zi,
  m = lwM sc ok osrc odtd otree oroot oord orow (some (.ref lf)) otold odue ∧ n = (dT, oT) :: cels L' o4 o3 o2 o1 Zi ∧ (∀ p ∈ Z, p ∈ Zi) ∧ (∀ p ∈ Zi, OffC L' p ∧ p.1 ≠ dT) ∧ oT.IsDictOf (PySem.strKind prg w) kvT ∧ All2 (KV IsInt) kvT (tblP (es.take i)) ∧ (lf, lst fv nf) ∈ Zi ∧ All2 (PairIn Zi) fv (refsAll (es.take i))
theorem ne_opt {w : World} {A : Around} {E : Value → Shared → Prop} {s : Shared} {v u : Value} {o : Option Str} {Q : Value → Shared → Prop} (hv : OptStr v o) (hu : OptStr u o) (h : Q (.bool false) s) : wpAny (model prg w) A (compareOp .NotEq v u) Q E s := by
  cases o with
  | none =>
    have hv' : v = .none := hv
    have hu' : u = .none := hu
    subst hv' hu'
    exact EqNone.ne_none_none h
  | some k =>
    obtain ⟨t1, rfl⟩ := hv
    obtain ⟨t2, rfl⟩ := hu
    exact PyProof.Rows.ne_str (by rw [show (k != k) = false from by simp]; exact h)
local macro_rules | `(tactic| walk_at "PAD") => `(tactic| fail)
theorem law_D {sc ok osrc orow ofnd otold odue} {tr : Tok} {lo : Addr} {ov : List Value} {no : Nat} {x2 x3 x4 : Option Value}
    (B : Below A₀ base [] g₀) (X : (KF w.params).In g₀) (T : Top q (looseW q loose) mean mg mb g₀)
    (F : Fr g₀ (laE L' fa cd).locals s.heap (lwM sc ok osrc (some (.ref dt)) (some (.ref t)) (some (.int 0 tr)) (some (.ref lo)) orow ofnd otold odue)) (N : News g₀ (laE L' fa cd).locals s.heap (cels L' o4 o3 o2 o1 Z)) (hz : ∀ p ∈ Z, OffC L' p) (S : LawS w Z t td rl rL kd dt tk rn rLn rows rv lrs v)
    (ho : (lo, lst ov no) ∈ Z) (hov : All2 (RowIs w Z) ov (olr lrs)) (e1 : o1.data = .cell (some (.ref kd))) (e2 : o2.data = .cell x2) (e3 : o3.data = .cell x3) (e4 : o4.data = .cell x4)
    (hd : dp + 12 < recursionLimit) (hu : un + 400 < cLine) (hP : PassesOwn (model prg w) (aT dp un gd (laE L' fa cd) []) (laE L' fa cd) E)
    (fin : ∀ h' tk' (dT lf : Addr) oT kvT fv nf Z' o3' orow otold, (∀ p ∈ Z, p ∈ Z') → (∀ p ∈ Z', OffC L' p) → (dT, oT) ∈ Z' → (dT == sysModules) = false → oT.IsDictOf (PySem.strKind prg w) kvT → All2 (KV IsInt) kvT (tblP (esL v lrs)) → (lf, lst fv nf) ∈ Z' → All2 (PairIn Z') fv (refsAll (esL v lrs)) → o3'.data = .cell (some (.ref dT)) →
      Fr g₀ (laE L' fa cd).locals h' (lwM sc ok osrc (some (.ref dt)) (some (.ref t)) (some (.int 0 tr)) (some (.ref lo)) orow (some (.ref lf)) otold odue) → News g₀ (laE L' fa cd).locals h' (cels L' o4 o3' o2 o1 Z') →
      wpAny (model prg w) (aT dp un gd (laE L' fa cd) []) (execs (kB.drop 7) (laE L' fa cd)) P E { s with heap := h', toks := tk' }) :
    wpAny (model prg w) (aT dp un gd (laE L' fa cd) []) (execs (kB.drop 5) (laE L' fa cd)) P E s := by
  k_extra "FILL"
  have hn6 := S.n
  have hT := S.T
  have z3 : ∀ p ∈ Z, p.1 ≠ L' + 1 + 1 + 1 := fun p hp => (hz p hp).2.2.1
  have hvl := hov.length
  have hol := ordF_len S.B.ab S.n 7 none
  rw [List.length_map] at hvl
  with_unfolding_all change wpAny _ _ (execs (_ :: _) _) _ _ _
  k_steps
  refine goOn ?_
  rename News _ _ _ _ => N3
  rename Fr g₀ _ _ _ => F3
  rename Obj.data _ = Data.cell (some (Value.ref _)) => e3n
  rename Obj.IsDictOf (PySem.strKind prg w) _ _ => hdT
  rename (_ == sysModules) = false => loT
  rename_i dT _ oT0 _ _ _ c4 c3 c2 c1 zT lf0 _ f1 f2 f3 f4 f5 zf _ _ _ _ _ _ _ _ _ _ _ _ _ o3' _
  have zTd := allLt_out zT
  have zfd := allLt_out zf
  have hTc : ∀ o : Obj, OffC L' (dT, o) := fun o => ⟨Nat.ne_of_gt c1, Nat.ne_of_gt c2, Nat.ne_of_gt c3, Nat.ne_of_gt c4⟩
  have hra : (refsAll (esL v lrs)).length ≤ 900 := by
    have h1 := refsAll_len (es := esL v lrs) fun e he => by
      refine E1_2 (List.mem_map.mp he) ?_; intro lr hl hq0; obtain rfl := hq0
      obtain ⟨i, hi⟩ := List.getElem?_of_mem hl
      obtain ⟨a, ha⟩ := olr_at hi
      have := S.B.ats lr (List.mem_of_getElem? ha)
      exact ⟨this.2.1, fun a ha => (this.2.2 a ha).2.1⟩
    rw [List.length_map, List.length_map] at h1
    omega
  refine' for_list_J (news := (dT, oT0) :: cels L' o4 o3' o2 o1 ((lf0, lst [] 0) :: Z)) (rowJ w L' dT o4 o3' o2 o1 v (esL v lrs) Z sc ok osrc (some (.ref dt)) (some (.ref t)) (some (.int 0 tr)) (some (.ref lo)) odue) rfl F3 (news_sub N3 ?sN) ?mlo ⟨orow, otold, lf0, [], 0, oT0, [], (lf0, lst [] 0) :: Z, ?mp, rfl, fun p hp => .tail _ hp, ?of, hdT, trivial, .head _, trivial⟩ (goOn ?turn) (goOn ?done)
  case sN =>
    intro p hp
    rcases List.mem_cons.mp hp with rfl | hp
    · exact .tail _ (.tail _ (.head _))
    refine cels_sub (.tail _ (.tail _ (.tail _ (.head _)))) (.tail _ (.tail _ (.tail _ (.tail _ (.head _))))) (.tail _ (.tail _ (.tail _ (.tail _ (.tail _ (.head _)))))) (.tail _ (.tail _ (.tail _ (.tail _ (.tail _ (.tail _ (.head _))))))) (fun p hp => ?_) p hp
    rcases List.mem_cons.mp hp with rfl | hp
    · exact .tail _ (.head _)
    · exact .tail _ (.tail _ (.tail _ (.tail _ (.tail _ (.tail _ (.tail _ hp))))))
  case mlo => exact .tail _ (.tail _ (.tail _ (.tail _ (.tail _ (.tail _ ho)))))
  case mp => k_extra "MAP"
  case of =>
    intro p hp
    rcases List.mem_cons.mp hp with rfl | hp
    · exact ⟨⟨Nat.ne_of_gt f5, Nat.ne_of_gt f4, Nat.ne_of_gt f3, Nat.ne_of_gt f2⟩, Nat.ne_of_gt f1⟩
    · exact ⟨hz p hp, Nat.ne_of_lt (zTd p hp)⟩
  case turn =>
    intro I i v2 m1 n1 it h3 tk3 hv hI hoff hm hJ hc F2 N2
    try k_fold
    refine E8_8 (hJ) ?_; (try clear hJ); intro orow otold lf fv nf oT kvT Zi hq1 hq2 hsub hzi hdT hkv hlf hfv; obtain rfl := hq1; obtain rfl := hq2
    refine E1_2 (hov.get hv) ?_; intro lr9 hlr9 hrow
    obtain ⟨a9, ha9⟩ := olr_at hlr9
    have hrs := rs_law v (S.B.nms lr9 (List.mem_of_getElem? ha9))
    have hat : AtsOk lr9.as := S.B.ats lr9 (List.mem_of_getElem? ha9)
    obtain ⟨-, -, -, R9, hR9, -, hn9, -, hav9⟩ := S.B.els a9 lr9 ha9
    have hrow2 := hrow
    refine E11_3 (hrow2) ?_; (try clear hrow2); intro ri nr d2 d3 o2' o3'' kv2 kv3 tn9 tm9 va9 hq3 hrm hz4; obtain rfl := hq3; clear hz4
    have hrm := hsub _ hrm
    have zTi : ∀ p ∈ Zi, p.1 ≠ dT := fun p hp => (hzi p hp).2
    have hIT : @Ne Nat I dT := fun e => hoff (dT, oT) (.head _) e.symm
    have hup : ∀ p ∈ Z, p ∈ (I, it) :: (dT, oT) :: cels L' o4 o3' o2 o1 Zi := fun p hp => .tail _ (.tail _ (.tail _ (.tail _ (.tail _ (.tail _ (hsub p hp))))))
    replace F2 := Fr.of_eq (m' := lwM sc ok osrc (some (.ref dt)) (some (.ref t)) (some (.int 0 tr)) (some (.ref lo)) (some (.ref ri)) (some (.ref lf)) otold odue) (by k_extra "MAP") F2
    have hei : (esL v lrs)[i]? = some (toE v lr9) := by rw [List.getElem?_map, hlr9]; rfl
    have hst := refsAll_step hei
    have hkl := hkv.length
    have htl := tblP_len ((esL v lrs).take i)
    have htl2 : ((esL v lrs).take i).length ≤ 64 := by rw [List.length_take, List.length_map, List.length_map]; omega
    have hkz : kvT.length ≤ 1000 := by omega
    k_steps
    refine goOn ?_
    refine' lawid_t w ?C hup hup S.K hrs.at_ hrow hat ?hd ?hu ?_
    case C => k_extra "CXC"
    case hd => ktr_room
    case hu => ktr_units
    intro vt h4 tk4 hvt F4 N4
    try k_fold
    k_steps
    refine goOn ?_
    refine' idof_t w ?C2 (hT.mono hup) (Int.natCast_nonneg _) (R := R9) ?hi2 hup S.D ?he2 hrs.ok.1 hrs.ok.2.1 hrs.ok.2.2 (AttOk_all hav9) ?hd2 ?hu2 ?_
    case C2 => k_extra "CXC"
    case hi2 => rw [Int.toNat_natCast]; exact hR9
    case he2 => rw [hn9]; exact hrs.at_
    case hd2 => ktr_room
    case hu2 => ktr_units
    intro vi h5 tk5 hvi F5 N5
    try k_fold
    rw [hrs.id] at hvi
    k_steps
    refine ne_opt hvi hvt ?_
    have hst3 := tblP_step hei
    unfold tblStep at hst3
    have hIc : ∀ o : Obj, OffC L' (I, o) := fun o => ⟨Ne.symm (hoff _ (.tail _ (.tail _ (.tail _ (.tail _ (.head _)))))), Ne.symm (hoff _ (.tail _ (.tail _ (.tail _ (.head _))))), Ne.symm (hoff _ (.tail _ (.tail _ (.head _)))), Ne.symm (hoff _ (.tail _ (.head _)))⟩
    have hoi : ∀ p ∈ Zi, p.1 ≠ I := fun p hp => hoff p (.tail _ (.tail _ (.tail _ (.tail _ (.tail _ hp)))))
    have hps : (refsAll ((esL v lrs).take i)).length ≤ 900 := Nat.le_trans (refsAll_take i) hra
    have hmo : (lo, lst ov no) ∈ Zi := hsub _ ho
    cases hid : lidP (rsOf v lr9.name) lr9.as with
    | none =>
      rw [hid] at hvt
      replace hvt : vt = .none := hvt
      subst hvt
      rw [show idE (toE v lr9) = none from (hrs.id lr9.as).trans hid] at hst3
      dsimp only at hst3
      rw [← hst3] at hkv
      k_steps
      refine goOn ?_
      rename Fr g₀ _ _ _ => F6
      rename News _ _ _ _ => N6
      refine law_D2 w B X T (Fr.of_eq (by k_extra "MAP") F6) N6 rfl (fun p hp => ⟨(hzi p hp).1, hoi p hp, (hzi p hp).2⟩) (hIc _) (hTc _) hIT hc hdT hsub S.K hrow hat hrs e1 e2 e3n e4 hlf hfv hps hd hu hP ?_
      intro h8 tk8 lf8 fv8 nf8 Z8 s8 o8 m8 p8 F8 N8
      try k_fold
      refine JPost.fin ((dT, _) :: cels L' o4 o3' o2 o1 Z8) F8 N8 (fun p hp => hp) (fun p hp => ?_) ⟨.tail _ (.tail _ (.tail _ (.tail _ (.tail _ (s8 _ hmo))))), _, _, lf8, fv8, nf8, _, _, Z8, rfl, rfl, fun p hp => s8 p (hsub p hp), fun p hp => ⟨(o8 p hp).1, (o8 p hp).2.2⟩, hdT, hkv, m8, by rw [hst]; exact p8⟩
      rcases List.mem_cons.mp hp with rfl | hp
      · exact Ne.symm hIT
      rcases List.mem_cons.mp hp with rfl | hp
      · exact Ne.symm (hIc o4).2.2.2
      rcases List.mem_cons.mp hp with rfl | hp
      · exact Ne.symm (hIc o4).2.2.1
      rcases List.mem_cons.mp hp with rfl | hp
      · exact Ne.symm (hIc o4).2.1
      rcases List.mem_cons.mp hp with rfl | hp
      · exact Ne.symm (hIc o4).1
      exact (o8 p hp).2.1
    | some k9 =>
      rw [hid] at hvt
      obtain ⟨t9, rfl⟩ := hvt
      rw [show idE (toE v lr9) = some k9 from (hrs.id lr9.as).trans hid] at hst3
      dsimp only at hst3
      cases hlk : (tblP ((esL v lrs).take i)).lookup k9 with
      | none =>
        have hv9 := kv_none hkv hlk
        rw [hlk] at hst3
        dsimp only at hst3
        k_steps
        rename Obj.IsDictOf _ _ (stored _ _ _) => hd9
        rw [stored_absent hv9] at hd9
        clear hdT
        have hdT := hd9
        have hkv9 := All2.append hkv (show All2 (KV IsInt) [(k9, Value.int lr9.node tn9)] [(k9, (toE v lr9).node)] from ⟨⟨rfl, tn9, rfl⟩, trivial⟩)
        clear hkv
        have hkv := hkv9
        rw [← hst3] at hkv
        refine goOn ?_
        rename Fr g₀ _ _ _ => F6
        rename News _ _ _ _ => N6
        refine law_D2 w B X T (Fr.of_eq (by k_extra "MAP") F6) N6 rfl (fun p hp => ⟨(hzi p hp).1, hoi p hp, (hzi p hp).2⟩) (hIc _) (hTc _) hIT hc hdT hsub S.K hrow hat hrs e1 e2 e3n e4 hlf hfv hps hd hu hP ?_
        intro h8 tk8 lf8 fv8 nf8 Z8 s8 o8 m8 p8 F8 N8
        try k_fold
        refine JPost.fin ((dT, _) :: cels L' o4 o3' o2 o1 Z8) F8 N8 (fun p hp => hp) (fun p hp => ?_) ⟨.tail _ (.tail _ (.tail _ (.tail _ (.tail _ (s8 _ hmo))))), _, _, lf8, fv8, nf8, _, _, Z8, rfl, rfl, fun p hp => s8 p (hsub p hp), fun p hp => ⟨(o8 p hp).1, (o8 p hp).2.2⟩, hdT, hkv, m8, by rw [hst]; exact p8⟩
        rcases List.mem_cons.mp hp with rfl | hp
        · exact Ne.symm hIT
        rcases List.mem_cons.mp hp with rfl | hp
        · exact Ne.symm (hIc o4).2.2.2
        rcases List.mem_cons.mp hp with rfl | hp
        · exact Ne.symm (hIc o4).2.2.1
        rcases List.mem_cons.mp hp with rfl | hp
        · exact Ne.symm (hIc o4).2.1
        rcases List.mem_cons.mp hp with rfl | hp
        · exact Ne.symm (hIc o4).1
        exact (o8 p hp).2.1
      | some n9 =>
        refine E1_2 (kv_some hkv hlk) ?_; intro v9 hv9 hr5; obtain ⟨t8, rfl⟩ := hr5
        rw [hlk] at hst3
        dsimp only at hst3
        rw [← hst3] at hkv
        k_steps
        refine goOn ?_
        rename Fr g₀ _ _ _ => F6
        rename News _ _ _ _ => N6
        refine law_D2 w B X T (Fr.of_eq (by k_extra "MAP") F6) N6 rfl (fun p hp => ⟨(hzi p hp).1, hoi p hp, (hzi p hp).2⟩) (hIc _) (hTc _) hIT hc hdT hsub S.K hrow hat hrs e1 e2 e3n e4 hlf hfv hps hd hu hP ?_
        intro h8 tk8 lf8 fv8 nf8 Z8 s8 o8 m8 p8 F8 N8
        try k_fold
        refine JPost.fin ((dT, _) :: cels L' o4 o3' o2 o1 Z8) F8 N8 (fun p hp => hp) (fun p hp => ?_) ⟨.tail _ (.tail _ (.tail _ (.tail _ (.tail _ (s8 _ hmo))))), _, _, lf8, fv8, nf8, _, _, Z8, rfl, rfl, fun p hp => s8 p (hsub p hp), fun p hp => ⟨(o8 p hp).1, (o8 p hp).2.2⟩, hdT, hkv, m8, by rw [hst]; exact p8⟩
        rcases List.mem_cons.mp hp with rfl | hp
        · exact Ne.symm hIT
        rcases List.mem_cons.mp hp with rfl | hp
        · exact Ne.symm (hIc o4).2.2.2
        rcases List.mem_cons.mp hp with rfl | hp
        · exact Ne.symm (hIc o4).2.2.1
        rcases List.mem_cons.mp hp with rfl | hp
        · exact Ne.symm (hIc o4).2.1
        rcases List.mem_cons.mp hp with rfl | hp
        · exact Ne.symm (hIc o4).1
        exact (o8 p hp).2.1
  case done =>
    intro m1 n1 h3 tk3 hm hJ F2 N2
    try k_fold
    refine E8_8 (hJ) ?_; (try clear hJ); intro orow2 otold2 lf fv nf oT kvT Zi hq6 hq7 hsub hzi hdT hkv hlf hfv; obtain rfl := hq6; obtain rfl := hq7
    rw [hvl, ← List.length_map (as := ordF lrs 7 none) (lrAt lrs), ← List.length_map (as := olr lrs) (toE v), List.take_length] at hkv hfv
    k_steps
    refine goOn ?_
    rename News _ _ _ _ => N9
    rename Fr g₀ _ _ _ => F9
    refine fin _ _ dT lf oT kvT fv nf ((dT, oT) :: Zi) o3' orow2 otold2 (fun p hp => .tail _ (hsub p hp)) (fun p hp => ?_) (.head _) loT hdT hkv (.tail _ hlf) (hfv.mono fun _ _ q => q.mono fun p hp => .tail _ hp) e3n F9 (news_sub N9 fun p hp => ?_)
    · rcases List.mem_cons.mp hp with rfl | hp
      · exact hTc _
      · exact (hzi p hp).1
    · refine cels_sub (.tail _ (.head _)) (.tail _ (.tail _ (.head _))) (.tail _ (.tail _ (.tail _ (.head _)))) (.tail _ (.tail _ (.tail _ (.tail _ (.head _))))) (fun p hp => ?_) p hp
      rcases List.mem_cons.mp hp with rfl | hp
      · exact .head _
      · exact .tail _ (.tail _ (.tail _ (.tail _ (.tail _ hp))))
end

-- part p45_lawE.lean
section
open PySem.Calls PyProof.V PySem.Spec
local macro_rules | `(tactic| walk_at "call ref") => `(tactic| k_extra "W13")

theorem el_all {rows : List NR} {lrs : List LR} (b : Bld rows lrs) (v : Bool) : ∀ {l : List Nat}, (∀ a ∈ l, a < lrs.length) → All2 (ElemIs rows (tabOf v)) (l.map (nodeAt lrs)) ((l.map (lrAt lrs)).map (toE v))
  | [], _ => trivial
  | a :: l, h => by
    have hal := h a (.head _)
    have hag : lrs[a]? = some lrs[a] := List.getElem?_eq_getElem hal
    refine ⟨?_, el_all b v fun x hx => h x (.tail _ hx)⟩
    rw [nodeAt_some hag, lrAt_some hag]
    exact elem_is b v hag
theorem els_law {rows : List NR} {lrs : List LR} (b : Bld rows lrs) (v : Bool) : All2 (ElemIs rows (tabOf v)) ((ordF lrs 7 none).map (nodeAt lrs)) (esL v lrs) := el_all b v fun _ h => ord_mem h
variable (w : World) {dp un : Nat} {gd : Option (List Code)} {A₀ : Around} {g₀ base : Heap} {mean : ExcName → Option Value} {mg mb : Str → Option Value} {L' fa : Addr} {cd : Value} {s : Shared} {E : Value → Shared → Prop} {P : Flow → Shared → Prop}
    {Z : List (Addr × Obj)} {t td rl rL kd dt : Addr} {tk : Tok} {rn rLn : Nat} {rows : List NR} {rv : List Value} {lrs : List LR} {v : Bool} {o1 o2 o3 o4 : Obj}
theorem words65 : True := by
  k_with "W66" => (k_here; (with_reducible show wpAny _ _ (call (Value.ref 56) _) _ _ _); refine stopAt ?_)
  k_with "W67" => ((with_reducible show wpAny _ _ (execs (Stmt.If (Expr.Compare (Expr.Call (Expr.Name (Str.ofString "broken_references") _) _ _ _) _ _ _) _ _ _ :: _) _) _ _ _); refine stopAt ?_)
  trivial
local macro_rules | `(tactic| walk_at "call ref") => `(tactic| k_extra "W66")
local macro_rules | `(tactic| walk_at "compareOp NotEq ref ref") => `(tactic| (k_here; refine stopAt ?_))
local macro_rules | `(tactic| walk_at "execs cons") => `(tactic| k_extra "W67")

local macro_rules | `(tactic| walk_at "PAD") => `(tactic| fail)
theorem law_E {sc ok osrc orow ofnd otold odue oord} {tr : Tok} {x2 : Option Value} {dT : Addr} {oT : Obj} {kvT : List (Str × Value)}
    (B : Below A₀ base [] g₀) (X : (KF w.params).In g₀) (T : Top q (looseW q loose) mean mg mb g₀)
    (F : Fr g₀ (laE L' fa cd).locals s.heap (lwM sc ok osrc (some (.ref dt)) (some (.ref t)) (some (.int 0 tr)) oord orow ofnd otold odue)) (N : News g₀ (laE L' fa cd).locals s.heap (cels L' o4 o3 o2 o1 Z)) (S : LawS w Z t td rl rL kd dt tk rn rLn rows rv lrs v)
    (hdm : (dT, oT) ∈ Z) (hlo : (dT == sysModules) = false) (hdT : oT.IsDictOf (PySem.strKind prg w) kvT) (hkv : All2 (KV IsInt) kvT (tblP (esL v lrs))) (e3 : o3.data = .cell (some (.ref dT)))
    (hd : dp + 12 < recursionLimit) (hu : un + 400 < cLine) (hP : PassesOwn (model prg w) (aT dp un gd (laE L' fa cd) []) (laE L' fa cd) E)
    (fin : ∀ h' tk', Fr g₀ (laE L' fa cd).locals h' (lwM sc ok osrc (some (.ref dt)) (some (.ref t)) (some (.int 0 tr)) oord orow ofnd otold odue) → News g₀ (laE L' fa cd).locals h' (cels L' o4 o3 o2 o1 Z) →
      wpAny (model prg w) (aT dp un gd (laE L' fa cd) []) (execs (kB.drop 8) (laE L' fa cd)) P E { s with heap := h', toks := tk' }) :
    wpAny (model prg w) (aT dp un gd (laE L' fa cd) []) (execs (kB.drop 7) (laE L' fa cd)) P E s := by
  k_extra "FILL"
  have hT := S.T
  refine E2_4 (walk_root S.B S.n) ?_; intro R0 c0 hR0 hk0 hW0 hc0
  have hup : ∀ p ∈ Z, p ∈ cels L' o4 o3 o2 o1 Z := fun p hp => .tail _ (.tail _ (.tail _ (.tail _ hp)))
  with_unfolding_all change wpAny _ _ (execs (_ :: _) _) _ _ _
  k_steps
  refine goOn ?_
  refine' idtable_t w ?C (hT.mono hup) (Int.le_refl 0) hR0 hk0 hW0 hc0 (els_law S.B v) hup S.D ?hd ?hu ?_
  case C => k_extra "CXC"
  case hd => ktr_room
  case hu => ktr_units
  intro d9 od9 kv9 h9 tk9 l9 lo9 hd9 hk9 F9 N9
  try k_fold
  k_steps
  refine goOn ?_
  refine dne_same (tab := tblP (esL v lrs)) N9 (.head _) (.tail _ (hup _ hdm)) hd9 hdT lo9 hlo hk9 hkv (tblP_nodup _) (by ktr_units) ?_
  k_steps
  refine goOn ?_
  rename Fr g₀ _ _ _ => F8
  exact fin _ _ F8 (news_sub (by assumption) fun p hp => .tail _ hp)
end

-- part p46_lawF.lean
section
open LCg LCt PySem.Calls PyProof.V PySem.Spec
theorem comp_listT_J {prog : Program} {w : World} {A : Around} {h₀ : Heap} {L : Addr} {m : Str → Option Value} {env : Env} {ct elt : PySem.Expr} {x : Str} {scope : Scope} {cl : List (Str × Addr)} {Fin : Shared → List Value → List (Addr × Obj) → Prop} {ax : Addr} {vs : List Value} {k : Nat} {news : List (Addr × Obj)} {s₁ : Shared} (J : Jc)
    (hh : A.handled = none) (F : Fr h₀ L s₁.heap m) (N : News h₀ L s₁.heap news) (hm : (ax, lst vs k) ∈ news) (hz : vs.length ≤ 1000000) (h0 : J 0 [] news)
    (turn : Later (∀ (s : Shared) i ys news v I oI C oC D m₂ h tk (E' : Value → Shared → Prop), vs[i]? = some v → J i ys news → NsObj oC m₂ → m₂ x = some v → Fr h₀ L h m → News h₀ L h ((I, oI) :: (C, oC) :: (D, LCg.lst ys) :: news) →
      (∀ p ∈ news, p.1 ≠ I ∧ p.1 ≠ C ∧ p.1 ≠ D) → ((@Ne Nat I C) ∧ (@Ne Nat I D) ∧ (@Ne Nat C D)) →
      wpAny (model prog w) A (isTrue ct (compEnvC scope cl C env) (eval ct (compEnvC scope cl C env))) (fun ok s' => if ok = true then
        wpAny (model prog w) A (eval elt (compEnvC scope cl C env)) (CEnd h₀ L m { s with heap := h, toks := tk } I oI C oC D (LCg.lst ys) (SrcAt h₀ ax vs.toArray) (fun y news' => J (i + 1) (ys ++ [y]) news')) E' s'
        else CEnd h₀ L m { s with heap := h, toks := tk } I oI C oC D (LCg.lst ys) (SrcAt h₀ ax vs.toArray) (fun _ news' => J (i + 1) ys news') Value.none s') E' { s with heap := h, toks := tk }))
    (fin : Later (∀ g ys news, J vs.length ys news → Fin { s₁ with heap := g } ys news)) : CompSrcT prog w A h₀ L m env ct elt x scope cl Fin (.ref ax) s₁ := by
  refine CompSrcT.ledger hh F N hm (by rw [sizeLine_eq, List.size_toArray]; omega) fun g => ?_
  rw [List.size_toArray]
  exact compRestT_J J (fun i ys news v I oI C oC D m₂ h tk E' hi hv => turn _ i ys news v I oI C oC D m₂ h tk E' (by simpa using hv)) (fin g) vs.length 0 [] news (by omega) h0
end
section
open LCg LCt PySem.Calls PyProof.V PySem.Spec
local macro_rules | `(tactic| walk_at "call ref") => `(tactic| k_extra "W13")

variable (w : World) {dp un : Nat} {gd : Option (List Code)} {A₀ : Around} {g₀ base : Heap} {mean : ExcName → Option Value} {mg mb : Str → Option Value} {L' fa : Addr} {cd : Value} {s : Shared} {E : Value → Shared → Prop} {P : Flow → Shared → Prop}
    {Z : List (Addr × Obj)} {t td rl rL kd dt : Addr} {tk : Tok} {rn rLn : Nat} {rows : List NR} {rv : List Value} {lrs : List LR} {v : Bool} {o1 o2 o3 o4 : Obj}
theorem words67 : True := by
  k_with "W68" => (k_here; (with_reducible show wpAny _ _ (call (Value.ref 70) _) _ _ _); refine stopAt ?_)
  k_with "W69" => (k_here; k_dflt (refine LCt.ListComp_T (F₀ := by k_asm) (by with_unfolding_all rfl) (by decide) (by rfl) (by decide) (by rfl) ?_))
  k_with "W70" => ((with_reducible show wpAny _ _ (execs (Stmt.For (Expr.Name (Str.ofString "name") _) _ _ _ _ :: _) _) _ _ _); refine stopAt ?_)
  trivial
local macro_rules | `(tactic| walk_at "call ref") => `(tactic| k_extra "W68")
local macro_rules | `(tactic| walk_at "compareOp NotEq ref ref") => `(tactic| (k_here; refine stopAt ?_))
local macro_rules | `(tactic| walk_at "eval ListComp") => `(tactic| k_extra "W69")
local macro_rules | `(tactic| walk_at "execs cons") => `(tactic| k_extra "W70")

local macro_rules | `(tactic| walk_at "PAD") => `(tactic| fail)
theorem law_F {sc ok osrc orow odue otold oord} {tr : Tok} {x1 x2 x4 : Option Value} {dT lf : Addr} {oT : Obj} {kvT : List (Str × Value)} {fv : List Value} {nf : Nat}
    (B : Below A₀ base [] g₀) (X : (KF w.params).In g₀) (T : Top q (looseW q loose) mean mg mb g₀)
    (F : Fr g₀ (laE L' fa cd).locals s.heap (lwM sc ok osrc (some (.ref dt)) (some (.ref t)) (some (.int 0 tr)) oord orow (some (.ref lf)) otold odue)) (N : News g₀ (laE L' fa cd).locals s.heap (cels L' o4 o3 o2 o1 Z)) (hz : ∀ p ∈ Z, OffC L' p) (S : LawS w Z t td rl rL kd dt tk rn rLn rows rv lrs v)
    (hdm : (dT, oT) ∈ Z) (hlo : (dT == sysModules) = false) (hdT : oT.IsDictOf (PySem.strKind prg w) kvT) (hkv : All2 (KV IsInt) kvT (tblP (esL v lrs))) (hlf : (lf, lst fv nf) ∈ Z) (hfv : All2 (PairIn Z) fv (refsAll (esL v lrs))) (e1 : o1.data = .cell x1) (e2 : o2.data = .cell x2) (e3 : o3.data = .cell (some (.ref dT))) (e4 : o4.data = .cell x4)
    (hra : (refsAll (esL v lrs)).length ≤ 900) (hwd : ∀ p ∈ refsAll (esL v lrs), isW p.2)
    (hd : dp + 12 < recursionLimit) (hu : un + 400 < cLine) (hP : PassesOwn (model prg w) (aT dp un gd (laE L' fa cd) []) (laE L' fa cd) E)
    (fin : ∀ h' tk', Fr g₀ (laE L' fa cd).locals h' (lwM sc ok osrc (some (.ref dt)) (some (.ref t)) (some (.int 0 tr)) oord orow (some (.ref lf)) otold odue) → News g₀ (laE L' fa cd).locals h' (cels L' o4 o3 o2 o1 Z) →
      wpAny (model prg w) (aT dp un gd (laE L' fa cd) []) (execs (kB.drop 9) (laE L' fa cd)) P E { s with heap := h', toks := tk' }) :
    wpAny (model prg w) (aT dp un gd (laE L' fa cd) []) (execs (kB.drop 8) (laE L' fa cd)) P E s := by
  k_extra "FILL"
  have hT := S.T
  refine E2_4 (walk_root S.B S.n) ?_; intro R0 c0 hR0 hk0 hW0 hc0
  have hup : ∀ p ∈ Z, p ∈ cels L' o4 o3 o2 o1 Z := fun p hp => .tail _ (.tail _ (.tail _ (.tail _ hp)))
  with_unfolding_all change wpAny _ _ (execs (_ :: _) _) _ _ _
  k_steps
  refine goOn ?_
  refine' broken_t w ?C (hT.mono hup) (Int.le_refl 0) hR0 hk0 hW0 hc0 (els_law S.B v) hup S.D (Nat.le_trans hra (by decide)) ?hd ?hu ?_
  case C => k_extra "CXC"
  case hd => ktr_room
  case hu => ktr_units
  intro l9 vs9 n9 Z9 h9 tk9 hsub9 hof9 hp9 F9 N9
  try k_fold
  generalize hal9 : (l9, lst vs9 n9) :: Z9 = all at N9
  have a1 : (l9, lst vs9 n9) ∈ all := hal9 ▸ .head _
  have a2 : ∀ p ∈ Z9, p ∈ all := fun p hp => hal9 ▸ .tail _ hp
  clear hal9
  have a3 : ∀ p ∈ cels L' o4 o3 o2 o1 Z, p ∈ all := fun p hp => a2 p (hsub9 p hp)
  have m4 := a3 _ (.head _)
  have m3 := a3 _ (.tail _ (.head _))
  have m2 := a3 _ (.tail _ (.tail _ (.head _)))
  have m1 := a3 _ (.tail _ (.tail _ (.tail _ (.head _))))
  have mZ : ∀ p ∈ Z, p ∈ all := fun p hp => a3 p (hup p hp)
  have kp : Keeps L' all := fun p hp hn => offC N9 m1 m2 m3 m4 e1 e2 e3 e4 hp hn
  have b1 := kp.sC a1 (noCell_lst _ _)
  have b2 : All2 (PairIn (sC L' all)) vs9 (brokenP (esL v lrs)) := hp9.mono fun _ _ ⟨a, n, t1, t2, e, m⟩ => ⟨a, n, t1, t2, e, kp.sC (a2 _ m) (fun x h => by simp at h)⟩
  have b3 : ∀ p ∈ Z, p ∈ sC L' all := fun p hp => sC_mem (mZ p hp) (hz p hp)
  have N10 : News g₀ L' h9 (cels L' o4 o3 o2 o1 (sC L' all)) := cellsN N9 m1 m2 m3 m4
  clear N9
  generalize sC L' all = Zs at b1 b2 b3 N10
  have hlf2 := b3 _ hlf
  have hdm2 := b3 _ hdm
  have hfl := hfv.length
  have hvl := b2.length
  k_steps
  refine goOn ?_
  rename News _ _ _ _ => N3
  rename Fr g₀ _ _ _ => F3
  refine' comp_listT_J (fun i ys n => n = cels L' o4 o3 o2 o1 Zs ∧ All2 (PairIn Zs) ys (((refsAll (esL v lrs)).take i).filter (missing (esL v lrs)))) rfl F3 N3 (.tail _ (.tail _ (.tail _ (.tail _ hlf2)))) (by omega) ⟨rfl, trivial⟩ (goOn ?turn) (goOn ?fin2)
  case turn =>
    intro s1 j ys2 n2 v2 I2 oI Cc oC D2 m5 h4 tk4 E2 hv2 hJ2 hCc hx2 F5 N5 hoff2 hne2
    try k_fold
    obtain ⟨rfl, hp2⟩ := hJ2
    refine E1_2 (hfv.get hv2) ?_; intro pp hpp hr8; refine E4_2 (hr8) ?_; (try clear hr8); intro av nn tt1 tt2 hq9 hmt; obtain rfl := hq9
    have hmt := b3 _ hmt
    refine E1_2 (kv_opt (k := pp.2) hkv) ?_; intro ov9 hov hov2
    have hms : missing (esL v lrs) pp = !ov9.isSome := by
      unfold missing
      revert hov2
      cases (tblP (esL v lrs)).lookup pp.2 with
      | none => intro e; rw [e]; rfl
      | some k => rintro ⟨v, rfl, _⟩; rfl
    have hst : ((refsAll (esL v lrs)).take (j + 1)).filter (missing (esL v lrs)) = ((refsAll (esL v lrs)).take j).filter (missing (esL v lrs)) ++ if missing (esL v lrs) pp = true then [pp] else [] := by
      rw [List.take_succ, hpp, List.filter_append]
      generalize missing (esL v lrs) = f
      cases hf : f pp <;> simp [hf]
    cases ov9 with
    | none =>
      rw [hms, show (!(none : Option Value).isSome) = true from rfl, if_pos rfl] at hst
      k_steps
      refine CEnd.fin _ F5 N5 (fun p hp => hp) hoff2 (.inr ⟨_, .tail _ (.tail _ (.tail _ (.tail _ hlf2))), rfl, _, rfl⟩) ⟨rfl, ?_⟩
      rw [hst]
      exact All2.append hp2 ⟨⟨av, nn, tt1, tt2, rfl, hmt⟩, trivial⟩
    | some v9 =>
      rw [hms, show (!(some v9 : Option Value).isSome) = false from rfl, if_neg (by decide), List.append_nil] at hst
      k_steps
      refine CEnd.fin _ F5 N5 (fun p hp => hp) hoff2 (.inr ⟨_, .tail _ (.tail _ (.tail _ (.tail _ hlf2))), rfl, _, rfl⟩) ⟨rfl, ?_⟩
      rw [hst]
      exact hp2
  case fin2 =>
    intro g ys2 n2 hJ2
    obtain ⟨rfl, hp2⟩ := hJ2
    rw [hfl, List.take_length, ← broken_eq] at hp2
    k_steps
    refine goOn ?_
    rename News _ _ _ _ => N7
    refine pairs_ne N7 (.tail _ (.tail _ (.tail _ (.tail _ (.tail _ b1))))) (.head _) (b2.mono fun _ _ q => q.mono fun p hp => .tail _ (.tail _ (.tail _ (.tail _ (.tail _ hp))))) (hp2.mono fun _ _ q => q.mono fun p hp => .tail _ (.tail _ (.tail _ (.tail _ (.tail _ hp))))) (fun p hp => hwd p ?_) (by ktr_units) ?_
    · change p ∈ brokenOf (esL v lrs) (esL v lrs) at hp
      rw [broken_eq] at hp
      exact (List.mem_filter.mp hp).1
    k_steps
    refine goOn ?_
    rename News _ _ _ _ => N8
    rename Fr g₀ _ _ _ => F8
    exact fin _ _ F8 (news_sub N8 fun p hp => .tail _ (cels_sub (.head _) (.tail _ (.head _)) (.tail _ (.tail _ (.head _))) (.tail _ (.tail _ (.tail _ (.head _)))) (fun p hp => .tail _ (.tail _ (.tail _ (.tail _ (b3 p hp))))) p hp))
end

-- part p47_lawG.lean
section
open LCg LCt PySem.Calls PyProof.V PySem.Spec
local macro_rules | `(tactic| walk_at "call ref") => `(tactic| k_extra "W13")

variable (w : World) {dp un : Nat} {gd : Option (List Code)} {A₀ : Around} {g₀ base : Heap} {mean : ExcName → Option Value} {mg mb : Str → Option Value} {L' fa : Addr} {cd : Value} {s : Shared} {E : Value → Shared → Prop} {P : Flow → Shared → Prop}
    {Z : List (Addr × Obj)} {t td rl rL kd dt : Addr} {tk : Tok} {rn rLn : Nat} {rows : List NR} {rv : List Value} {lrs : List LR} {v : Bool} {o1 o2 o3 o4 : Obj}
theorem words69 : True := by
  k_with "W71" => (k_here; first | ((with_reducible show wpAny _ _ (call (Value.ref 508) _) _ _ _); refine stopAt ?_) | ((with_reducible show wpAny _ _ (call (Value.ref 75) _) _ _ _); refine stopAt ?_))
  k_with "W72" => (k_here; k_dflt (refine LCt.Assign_ListComp_T (F₀ := by k_asm) (by rfl) (by with_unfolding_all rfl) (by with_unfolding_all rfl) (by decide) (by rfl) (by decide) (by rfl) (by rfl) (by rfl) ?_))
  k_with "W73" => (k_here; k_dflt (refine LCg.ListComp_U (F₀ := by k_asm) (by with_unfolding_all rfl) (by decide) (by rfl) (by decide) (by rfl) ?_))
  trivial
local macro_rules | `(tactic| walk_at "exec For Name List cons nil") => `(tactic| (k_here; (rename Fr _ _ _ _ => lF'); (with_unfolding_all refine' For_turns lF' ?_; k_whole)))
local macro_rules | `(tactic| walk_at "pyIter ref") => `(tactic| ((with_reducible show wpAny _ _ (pyIter (Value.ref _)) (fun it s₂ => TurnsAt _ _ _ _ _ _ _ _ _ it s₂) _ _); refine stopAt ?_))
local macro_rules | `(tactic| walk_at "call ref") => `(tactic| k_extra "W71")
local macro_rules | `(tactic| walk_at "compareOp NotEq ref ref") => `(tactic| (k_here; refine stopAt ?_))
local macro_rules | `(tactic| walk_at "compareOp In str ref") => `(tactic| (k_here; refine stopAt ?_))
local macro_rules | `(tactic| walk_at "exec Assign cons ListComp") => `(tactic| k_extra "W72")
local macro_rules | `(tactic| walk_at "eval ListComp") => `(tactic| k_extra "W73")

theorem strs_dat {news : List (Addr × Obj)} {vs : List Value} {xs : List Str} (h : StrsAre vs xs) : DatAll news vs (xs.map Dat.str) := by
  induction h with
  | nil => exact .nil
  | cons x t _ ih => exact .cons (.str _ _) ih
open Classical in
theorem str_in {w : World} {A : Around} {E : Value → Shared → Prop} {s : Shared} {h₀ : Heap} {L l : Addr} {news : List (Addr × Obj)} {xs : List Value} {ss : List Str} {n : Nat} {nm : Str} {t : Tok} {Q : Value → Shared → Prop} (N : News h₀ L s.heap news) (hm : (l, lst xs n) ∈ news) (hx : StrsAre xs ss) (hok : ∀ x ∈ ss, PyData.strOk x = true) (hn : PyData.strOk nm = true) (hu : A.units + 64 < cLine)
    (h : Q (.bool (decide (nm ∈ ss))) s) : wpAny (model prg w) A (compareOp .In (.str nm t) (.ref l)) Q E s := by
  refine kqd_isIn (n₁ := news) (n₂ := news) (ds := ss.map Dat.str) N hm rfl rfl (strs_dat hx) (fun _ h => h) (.str nm t) (fun _ h => h) (fun d hd => ?_) (by simp [kqdOk, hn]) hu ?_
  · refine E1_2 (List.mem_map.mp hd) ?_; intro x hx hq0; obtain rfl := hq0
    simp [kqdOk, hok x hx]
  · have e : Dat.str nm ∈ ss.map Dat.str ↔ nm ∈ ss := ⟨fun h => by
      refine E1_2 (List.mem_map.mp h) ?_; intro x hx e
      rw [← Dat.str.inj e]; exact hx, fun h => List.mem_map.mpr ⟨_, h, rfl⟩⟩
    by_cases hb : nm ∈ ss
    · rw [decide_eq_true (e.mpr hb)]; rw [decide_eq_true hb] at h; exact h
    · rw [decide_eq_false fun x => hb (e.mp x)]; rw [decide_eq_false hb] at h; exact h
def inRefs (v : Bool) (nm : Str) (lr : LR) : Bool := decide (nm ∈ (refsP (rsOf v lr.name) lr.as).map (·.2))
theorem refer_due (v : Bool) (nm : Str) (l : List LR) : referOf nm (l.map (toE v)) = (l.filter (inRefs v nm)).map fun r => (r.node : Int) := by
  unfold referOf
  rw [List.filter_map, List.map_map]
  have e : (refersP nm ∘ toE v) = inRefs v nm := funext fun lr => refers_mem nm (toE v lr)
  rw [e]
  rfl
def gJ (L' ll : Addr) (lv : List Value) (nl : Nat) (o3 o2 o1 : Obj) (Z : List (Addr × Obj)) (sc : Value) (ok osrc odtd otree oroot oord orow ofnd otold : Option Value) : Jt := fun _ m n => ∃ odue o4 x,
  m = lwM sc ok osrc odtd otree oroot oord orow ofnd otold odue ∧ o4.data = .cell x ∧ n = (ll, lst lv nl) :: cels L' o4 o3 o2 o1 Z
theorem law_G {sc ok osrc orow ofnd odue otold} {tr : Tok} {x2 x3 x4 : Option Value} {lo : Addr} {ov : List Value} {no : Nat}
    (B : Below A₀ base [] g₀) (X : (KF w.params).In g₀) (T : Top q (looseW q loose) mean mg mb g₀)
    (F : Fr g₀ (laE L' fa cd).locals s.heap (lwM sc ok osrc (some (.ref dt)) (some (.ref t)) (some (.int 0 tr)) (some (.ref lo)) orow ofnd otold odue)) (N : News g₀ (laE L' fa cd).locals s.heap (cels L' o4 o3 o2 o1 Z)) (hz : ∀ p ∈ Z, OffC L' p) (S : LawS w Z t td rl rL kd dt tk rn rLn rows rv lrs v)
    (ho : (lo, lst ov no) ∈ Z) (hov : All2 (RowIs w Z) ov (olr lrs)) (e1 : o1.data = .cell (some (.ref kd))) (e2 : o2.data = .cell x2) (e3 : o3.data = .cell x3) (e4 : o4.data = .cell x4)
    (hra : (refsAll (esL v lrs)).length ≤ 900)
    (hd : dp + 12 < recursionLimit) (hu : un + 400 < cLine) (hP : PassesOwn (model prg w) (aT dp un gd (laE L' fa cd) []) (laE L' fa cd) E)
    (fin : ∀ h' tk' o4' odue x, o4'.data = .cell x → Fr g₀ (laE L' fa cd).locals h' (lwM sc ok osrc (some (.ref dt)) (some (.ref t)) (some (.int 0 tr)) (some (.ref lo)) orow ofnd otold odue) → News g₀ (laE L' fa cd).locals h' (cels L' o4' o3 o2 o1 Z) → P .next { s with heap := h', toks := tk' }) :
    wpAny (model prg w) (aT dp un gd (laE L' fa cd) []) (execs (kB.drop 9) (laE L' fa cd)) P E s := by
  k_extra "FILL"
  have hn6 := S.n
  have hT := S.T
  refine E2_4 (walk_root S.B S.n) ?_; intro R0 c0 hR0 hk0 hW0 hc0
  have hvl := hov.length
  have hol := ordF_len S.B.ab S.n 7 none
  rw [List.length_map] at hvl
  with_unfolding_all change wpAny _ _ (execs (_ :: []) _) _ _ _
  k_steps
  refine goOn ?_
  rename News _ _ _ _ => N3
  rename Fr g₀ _ _ _ => F3
  rename_i ll _ c4 c3 c2 c1 zT
  have zTd := allLt_out zT
  have z4 : ∀ p ∈ Z, p.1 ≠ L' + 1 + 1 + 1 + 1 := fun p hp => (hz p hp).2.2.2
  generalize hlv : (W.listOf #[Value.str (Str.ofString "i") s.toks, Value.str (Str.ofString "l") (s.toks + 1)] 0) = lvO at N3
  obtain rfl : lvO = lst [.str (st "i") s.toks, .str (st "l") (s.toks + 1)] 0 := hlv.symm
  refine' for_turns_J (gJ L' ll [.str (st "i") s.toks, .str (st "l") (s.toks + 1)] 0 o3 o2 o1 Z sc ok osrc (some (.ref dt)) (some (.ref t)) (some (.int 0 tr)) (some (.ref lo)) orow ofnd otold) rfl F3 N3 (.head _) ⟨odue, o4, x4, rfl, e4, rfl⟩ (goOn ?turn) (goOn ?done)
  case turn =>
    intro I i v2 m1 n1 it h3 tk3 hv hI hoff hm hJ hc F2 N2
    try k_fold
    refine E3_3 (hJ) ?_; (try clear hJ); intro od2 o4' x4' hq1 e4' hq2; obtain rfl := hq1; obtain rfl := hq2
    obtain ⟨nm, tn, rfl, hnm⟩ : ∃ nm tn, v2 = .str nm tn ∧ PyData.strOk nm = true := by
      rcases i with _ | _ | i
      · obtain rfl := Option.some.inj hv; exact ⟨_, _, rfl, by decide +kernel⟩
      · obtain rfl := Option.some.inj hv; exact ⟨_, _, rfl, by decide +kernel⟩
      · simp at hv
    have hup : ∀ o4', ∀ p ∈ Z, p ∈ (I, it) :: (ll, lst [.str (st "i") s.toks, .str (st "l") (s.toks + 1)] 0) :: cels L' o4' o3 o2 o1 Z := fun _ p hp => .tail _ (.tail _ (.tail _ (.tail _ (.tail _ (.tail _ hp)))))
    have hIc : @Ne Nat I (L' + 1 + 1 + 1 + 1) := Ne.symm (hoff _ (.tail _ (.head _)))
    have hlc : @Ne Nat ll (L' + 1 + 1 + 1 + 1) := Nat.ne_of_gt c4
    generalize hlO : lst [.str (st "i") s.toks, .str (st "l") (s.toks + 1)] 0 = lvO at *
    k_steps
    refine goOn ?_
    rename News _ _ _ _ => N4
    rename Fr g₀ _ _ _ => F4
    rename Obj.data _ = Data.cell (some (Value.str nm _)) => d4
    rename_i o4''
    clear hup
    have hup : ∀ p ∈ Z, p ∈ (I, it) :: (ll, lvO) :: cels L' o4'' o3 o2 o1 Z := fun p hp => .tail _ (.tail _ (.tail _ (.tail _ (.tail _ (.tail _ hp)))))
    obtain ⟨BA, hBA⟩ : ∃ BA, BA = (I, it) :: (ll, lvO) :: cels L' o4'' o3 o2 o1 Z := ⟨_, rfl⟩
    refine' comp_listT_J (fun j ys n => n = (I, it) :: (ll, lvO) :: cels L' o4'' o3 o2 o1 Z ∧ IntsAre ys ((((olr lrs).take j).filter (inRefs v nm)).map fun r => (r.node : Int))) rfl F4 N4 (hup _ ho) (by omega) ⟨rfl, .nil⟩ (goOn ?turn2) (goOn ?fin2)
    case turn2 =>
      intro s1 j ys2 n2 v2 I2 oI Cc oC D2 m5 h4 tk4 E2 hv2 hJ2 hCc hx2 F5 N5 hoff2 hne2
      try k_fold
      obtain ⟨rfl, hp2⟩ := hJ2
      refine E1_2 (hov.get hv2) ?_; intro lr9 hlr9 hrow
      obtain ⟨a9, ha9⟩ := olr_at hlr9
      have hrs := rs_law v (S.B.nms lr9 (List.mem_of_getElem? ha9))
      have hat : AtsOk lr9.as := S.B.ats lr9 (List.mem_of_getElem? ha9)
      have hrow2 := hrow
      refine E11_3 (hrow2) ?_; (try clear hrow2); intro ri nr d2 d3 o2' o3'' kv2 kv3 tn9 tm9 va9 hq3 hrm hz4; obtain rfl := hq3; clear hz4
      have hrl := refsP_len (rs := rsOf v lr9.name) fun a ha => (hat.2.2 a ha).2.1
      have hal := hat.2.1
      have hup2 : ∀ p ∈ Z, p ∈ (I2, oI) :: (Cc, oC) :: (D2, LCg.lst ys2) :: (I, it) :: (ll, lvO) :: cels L' o4'' o3 o2 o1 Z := fun p hp => .tail _ (.tail _ (.tail _ (hup p hp)))
      k_steps
      refine goOn ?_
      refine' lawrefs_t w ?C hup2 hup2 S.K hrs.at_ hrow hat hrs.ok2 (by omega) ?hd ?hu ?_
      case C => k_extra "CXC"
      case hd => ktr_room
      case hu => ktr_units
      intro l9 vs9 n9 Z9 h9 tk9 hsub9 hp9 F9 N9
      try k_fold
      generalize hal9 : (l9, lst vs9 n9) :: Z9 = all at N9
      have a1 : (l9, lst vs9 n9) ∈ all := hal9 ▸ .head _
      have a2 : ∀ p ∈ Z9, p ∈ all := fun p hp => hal9 ▸ .tail _ hp
      clear hal9
      have a3 : ∀ p ∈ (I2, oI) :: (Cc, oC) :: (D2, LCg.lst ys2) :: (I, it) :: (ll, lvO) :: cels L' o4'' o3 o2 o1 Z, p ∈ all := fun p hp => a2 p (hsub9 p hp)
      have qC := a3 (Cc, oC) (.tail _ (.head _))
      have q4 := a3 (L' + 1 + 1 + 1 + 1, o4'') (.tail _ (.tail _ (.tail _ (.tail _ (.tail _ (.head _))))))
      have qr := a3 _ (hup2 _ (by exact hrm))
      have b2 : All2 (PairIn all) vs9 (refsP (rsOf v lr9.name) lr9.as) := hp9.mono fun _ _ q => q.mono a2
      have hvl9 := b2.length
      have hwd : ∀ x ∈ (refsP (rsOf v lr9.name) lr9.as).map (·.2), PyData.strOk x = true := fun x hx => by
        refine E1_2 (List.mem_map.mp hx) ?_; intro p hp hq5; obtain rfl := hq5
        exact isW_ok (refsP_words (fun a ha => (hat.2.2 a ha).2.2) p hp)
      have hst : ((olr lrs).take (j + 1)).filter (inRefs v nm) = ((olr lrs).take j).filter (inRefs v nm) ++ if inRefs v nm lr9 = true then [lr9] else [] := by
        rw [List.take_succ, hlr9, List.filter_append]
        generalize inRefs v nm = f
        cases hf : f lr9 <;> simp [hf]
      refine' comp_list_J (fun i ys n => n = all ∧ StrsAre ys (((refsP (rsOf v lr9.name) lr9.as).take i).map (·.2))) rfl F9 N9 a1 (by omega) ⟨rfl, .nil⟩ (goOn ?turn3) (goOn ?fin3)
      case turn3 =>
        intro s3 j3 ys3 n3 v3 I3 oI3 C3 oC3 D3 m6 h6 tk6 E3 hj3 hv3 hJ3 hC3 hx3 F6 N6 hoff3 hne3
        try k_fold
        obtain ⟨rfl, hp3⟩ := hJ3
        refine E1_2 (b2.get hv3) ?_; intro pp hpp hr6; refine E4_2 (hr6) ?_; (try clear hr6); intro av nn tt1 tt2 hq7 hmt; obtain rfl := hq7
        k_steps
        refine CEnd.fin _ F6 N6 (fun p hp => hp) hoff3 (.inr ⟨_, a1, rfl, _, rfl⟩) ⟨rfl, ?_⟩
        rw [List.take_succ, hpp, List.map_append]
        exact strs_append hp3 (.cons _ _ .nil)
      case fin3 =>
        intro g3 ys3 n3 hJ3
        obtain ⟨rfl, hp3⟩ := hJ3
        rw [hvl9, List.take_length] at hp3
        k_steps
        refine goOn ?_
        rename News _ _ _ _ => N8
        rename Fr g₀ _ _ _ => F8
        refine str_in N8 (.head _) hp3 hwd hnm (by ktr_units) ?_
        cases hb : inRefs v nm lr9 with
        | true =>
          rw [show decide (nm ∈ (refsP (rsOf v lr9.name) lr9.as).map (·.2)) = true from hb]
          rw [hb, if_pos rfl] at hst
          k_steps
          refine CEnd.fin _ F8 N8 (fun p hp => .tail _ (a3 p hp)) hoff2 (.inr ⟨_, hup _ ho, rfl, _, rfl⟩) ⟨rfl, ?_⟩
          rw [hst, List.map_append]
          exact ints_append hp2 (.cons _ _ .nil)
        | false =>
          rw [show decide (nm ∈ (refsP (rsOf v lr9.name) lr9.as).map (·.2)) = false from hb]
          rw [hb, if_neg (by decide), List.append_nil] at hst
          k_steps
          refine CEnd.fin _ F8 N8 (fun p hp => .tail _ (a3 p hp)) hoff2 (.inr ⟨_, hup _ ho, rfl, _, rfl⟩) ⟨rfl, ?_⟩
          rw [hst]
          exact hp2
    case fin2 =>
      intro g ys2 n2 hJ2
      obtain ⟨rfl, hp2⟩ := hJ2
      rw [hvl, ← List.length_map (as := ordF lrs 7 none) (lrAt lrs), List.take_length, ← refer_due] at hp2
      k_steps
      refine goOn ?_
      rename News _ _ _ _ => N7
      rename Fr g₀ _ _ _ => F7
      rename_i Dx _ _ _
      have hup3 : ∀ p ∈ Z, p ∈ (Dx, LCg.lst ys2) :: (I, it) :: (ll, lvO) :: cels L' o4'' o3 o2 o1 Z := fun p hp => .tail _ (hup p hp)
      refine' referring_t w ?C (hT.mono hup3) (Int.le_refl 0) hR0 hk0 hW0 hc0 (els_law S.B v) hup3 S.D (Nat.le_trans hra (by decide)) ?hd ?hu ?_
      case C => k_extra "CXC"
      case hd => ktr_room
      case hu => ktr_units
      intro l9 vs9 n9 h9 tk9 hl9 hv9 F9 N9
      try k_fold
      k_steps
      refine goOn ?_
      rename News _ _ _ _ => N10
      refine ke_ne_ints (isList_mem N10 (.head _)) (isList_mem N10 (.tail _ (.head _))) hv9 hp2 ?un ?_
      case un => ktr_units
      rw [decide_eq_true rfl, Bool.not_true]
      k_steps
      rename News _ _ _ _ => N11
      rename Fr g₀ _ _ _ => F11
      refine JPost.fin ((ll, lvO) :: cels L' o4'' o3 o2 o1 Z) F11 (news_sub N11 fun p hp => .tail _ (.tail _ hp)) (fun p hp => hp) (fun p hp => ?_) ⟨(by first | exact .head _ | (rw [hlO]; exact .head _)), some (.ref Dx), o4'', _, ?_, d4, congrArg (fun o => (ll, o) :: cels L' o4'' o3 o2 o1 Z) hlO.symm⟩
      · rcases List.mem_cons.mp hp with rfl | hp
        · exact hoff _ (.head _)
        rcases List.mem_cons.mp hp with rfl | hp
        · exact Ne.symm hIc
        · exact hoff p (.tail _ (.tail _ hp))
      · k_extra "MAP"
  case done =>
    intro m1 n1 h3 tk3 hm hJ F2 N2
    try k_fold
    refine E3_3 (hJ) ?_; (try clear hJ); intro od2 o4' x4' hq8 e4' hq9; obtain rfl := hq8; obtain rfl := hq9
    k_steps
    exact fin _ _ o4' od2 x4' e4' F2 (news_sub N2 fun p hp => .tail _ hp)
end

-- part p48_lawT.lean
section
open PySem.Calls PyProof.V PySem.Spec
theorem olr_ats {rows : List NR} {lrs : List LR} (b : Bld rows lrs) {lr : LR} (hl : lr ∈ olr lrs) : AtsOk lr.as := by
  obtain ⟨i, hi⟩ := List.getElem?_of_mem hl
  obtain ⟨a, ha⟩ := olr_at hi
  exact b.ats lr (List.mem_of_getElem? ha)
theorem refs_le {rows : List NR} {lrs : List LR} (b : Bld rows lrs) (hn : lrs.length ≤ 6) (v : Bool) : (refsAll (esL v lrs)).length ≤ 900 := by
  have h1 := refsAll_len (es := esL v lrs) fun e he => by
    refine E1_2 (List.mem_map.mp he) ?_; intro lr hl hq0; obtain rfl := hq0
    have := olr_ats b hl
    exact ⟨this.2.1, fun a ha => (this.2.2 a ha).2.1⟩
  rw [List.length_map, List.length_map] at h1
  have hol := ordF_len b.ab hn 7 none
  omega
theorem refs_isW {rows : List NR} {lrs : List LR} (b : Bld rows lrs) (v : Bool) : ∀ p ∈ refsAll (esL v lrs), isW p.2 := fun p hp => by
  refine E1_2 (List.mem_flatMap.mp hp) ?_; intro e he hp
  refine E1_2 (List.mem_map.mp he) ?_; intro lr hl hq1; obtain rfl := hq1
  exact refsP_words (fun a ha => ((olr_ats b hl).2.2 a ha).2.2) p hp
variable (w : World) {dp un : Nat} {gd : Option (List Code)} {A₀ : Around} {g₀ base : Heap} {mean : ExcName → Option Value} {mg mb : Str → Option Value} {L' fa : Addr} {cd : Value} {s : Shared} {E : Value → Shared → Prop} {P : Flow → Shared → Prop}
theorem law_T {I sc : Addr} {it o1 o2 o3 o4 : Obj} {x1 x2 x3 x4 : Option Value} {vs : List Value} {ns : List Int} {k : Int} {ti : Tok} {osrc odtd otree oroot oord orow ofnd otold odue : Option Value}
    (B : Below A₀ base [] g₀) (X : (KF w.params).In g₀) (T : Top q (looseW q loose) mean mg mb g₀)
    (F : Fr g₀ (laE L' fa cd).locals s.heap (lwM (.ref sc) (some (.int k ti)) osrc odtd otree oroot oord orow ofnd otold odue)) (N : News g₀ (laE L' fa cd).locals s.heap ((I, it) :: cels L' o4 o3 o2 o1 []))
    (hI : OffC L' (I, it)) (e1 : o1.data = .cell x1) (e2 : o2.data = .cell x2) (e3 : o3.data = .cell x3) (e4 : o4.data = .cell x4)
    (hsc : g₀.IsList sc vs.toArray) (hns : IntsAre vs ns) (hlen : vs.length ≤ 63) (hk0 : 0 ≤ k) (hk1 : k ≤ 1)
    (hd : dp + 12 < recursionLimit) (hu : un + 400 < cLine) (hP : PassesOwn (model prg w) (aT dp un gd (laE L' fa cd) []) (laE L' fa cd) E)
    (fin : ∀ h' tk' (p1 p2 p3 p4 : Obj) (y1 y2 y3 y4 : Option Value) (v1 v2 v3 v4 v5 v6 v7 v8 v9 : Option Value), p1.data = .cell y1 → p2.data = .cell y2 → p3.data = .cell y3 → p4.data = .cell y4 → Fr g₀ (laE L' fa cd).locals h' (lwM (.ref sc) (some (.int k ti)) v1 v2 v3 v4 v5 v6 v7 v8 v9) → News g₀ (laE L' fa cd).locals h' ((I, it) :: cels L' p4 p3 p2 p1 []) → P .next { s with heap := h', toks := tk' }) :
    wpAny (model prg w) (aT dp un gd (laE L' fa cd) []) (execs kB (laE L' fa cd)) P E s := by
  refine law_A w B X T F N hI e1 e2 e3 e4 hsc hns hlen hk0 hk1 hd hu hP ?_
  intro Z t td rl rL kd dt l tk tr rn rLn rows rv lrs v o1 o2 h1 tk1 hIm hz S e1 e2 F N
  try k_fold
  refine law_B w B X T F N hz S e2 hd hu hP ?_
  intro lo ov n Z1 h2 tk2 s1 hz1 ho hov F N
  try k_fold
  have S := S.mono s1
  refine law_C w B X T F N S ho hov hd hu hP ?_
  intro h3 tk3 F N
  refine law_D w B X T F N hz1 S ho hov e1 e2 e3 e4 hd hu hP ?_
  intro h4 tk4 dT lf oT kvT fv nf Z2 o3' orow otold s2 hz2 hdm hlo hdT hkv hlf hfv e3 F N
  try k_fold
  have S := S.mono s2
  refine law_E (x2 := none) w B X T F N S hdm hlo hdT hkv e3 hd hu hP ?_
  intro h5 tk5 F N
  refine law_F w B X T F N hz2 S hdm hlo hdT hkv hlf hfv e1 e2 e3 e4 (refs_le S.B S.n v) (refs_isW S.B v) hd hu hP ?_
  intro h6 tk6 F N
  refine law_G w B X T F N hz2 S (s2 _ ho) (hov.mono fun _ _ q => q.mono s2) e1 e2 e3 e4 (refs_le S.B S.n v) hd hu hP ?_
  intro h7 tk7 o4' odue x e4 F N
  try k_fold
  refine fin _ _ o1 o2 o3' o4' _ _ _ _ _ _ _ _ _ _ _ _ _ e1 e2 e3 e4 F (news_sub N fun p hp => ?_)
  rcases List.mem_cons.mp hp with rfl | hp
  · exact .tail _ (.tail _ (.tail _ (.tail _ (s2 _ (s1 _ hIm)))))
  · exact cels_sub (.head _) (.tail _ (.head _)) (.tail _ (.tail _ (.head _))) (.tail _ (.tail _ (.tail _ (.head _)))) (fun p hp => absurd hp List.not_mem_nil) p hp
end

-- part p49_lawM.lean
section
open PySem.Calls PyProof.V PySem.Spec
local macro_rules | `(tactic| walk_at "call ref") => `(tactic| k_extra "W13")

variable (w : World) {dp un : Nat} {gd : Option (List Code)} {A₀ : Around} {g₀ base : Heap} {mean : ExcName → Option Value} {mg mb : Str → Option Value} {L' fa : Addr} {cd : Value} {s : Shared} {E : Value → Shared → Prop} {P : Flow → Shared → Prop}
theorem words71 : True := by
  k_with "W74" => (k_here; (with_reducible show wpAny _ _ (call (Value.ref 515) _) _ _ _); refine stopAt ?_)
  trivial
local macro_rules | `(tactic| walk_at "call ref") => `(tactic| k_extra "W74")
local macro_rules | `(tactic| walk_at "call type:range") => `(tactic| (k_here; (rename Fr _ _ _ _ => lF'); (rename News _ _ _ _ => lN'); (with_unfolding_all refine range1_rows lF' lN' ?_); intro _ _ _ _ _ _ _ _ _))

def mJ (L' sc : Addr) : Jt := fun _ m n => ∃ (p1 p2 p3 p4 : Obj) (y1 y2 y3 y4 : Option Value) (v0 v1 v2 v3 v4 v5 v6 v7 v8 v9 : Option Value), p1.data = .cell y1 ∧ p2.data = .cell y2 ∧ p3.data = .cell y3 ∧ p4.data = .cell y4 ∧ m = lwM (.ref sc) v0 v1 v2 v3 v4 v5 v6 v7 v8 v9 ∧ n = cels L' p4 p3 p2 p1 []
theorem law_M {sc : Addr} {o1 o2 o3 o4 : Obj} {x1 x2 x3 x4 : Option Value} {vs : List Value} {ns : List Int}
    (B : Below A₀ base [] g₀) (X : (KF w.params).In g₀) (T : Top q (looseW q loose) mean mg mb g₀)
    (F : Fr g₀ (laE L' fa cd).locals s.heap (lwM (.ref sc) none none none none none none none none none none)) (N : News g₀ (laE L' fa cd).locals s.heap (cels L' o4 o3 o2 o1 []))
    (e1 : o1.data = .cell x1) (e2 : o2.data = .cell x2) (e3 : o3.data = .cell x3) (e4 : o4.data = .cell x4)
    (hsc : g₀.IsList sc vs.toArray) (hns : IntsAre vs ns) (hlen : vs.length ≤ 63)
    (hd : dp + 12 < recursionLimit) (hu : un + 400 < cLine) (hP : PassesOwn (model prg w) (aT dp un gd (laE L' fa cd) []) (laE L' fa cd) E)
    (fin : ∀ h' tk' m, Fr g₀ (laE L' fa cd).locals h' m → P (.ret (.bool true)) { s with heap := h', toks := tk' }) :
    wpAny (model prg w) (aT dp un gd (laE L' fa cd) []) (execs b_34.val (laE L' fa cd)) P E s := by
  k_extra "FILL"
  with_unfolding_all change wpAny _ _ (execs (_ :: _) _) _ _ _
  k_steps
  refine goOn ?_
  have hln := hns.length
  refine' alike_t w ?C ?hd ?hu ?_
  case C => k_extra "CXC"
  case hd => ktr_room
  case hu => ktr_units
  intro h1 tk1 F1 N1
  k_steps
  all_goals try simp only []
  refine goOn ?_
  rename IsRange _ _ _ _ _ _ _ _ => rg
  rename News _ _ _ _ => N3
  rename Fr g₀ _ _ _ => F3
  have hn : ∃ n : Nat, (if (if (ns.length : Int) < 2 then (ns.length : Int) else 2) > 1 then if (ns.length : Int) < 2 then (ns.length : Int) else 2 else 1) = (n : Int) ∧ n ≤ 2 := by
    by_cases h : (ns.length : Int) < 2
    · rw [if_pos h]
      by_cases h2 : (ns.length : Int) > 1
      · exact ⟨ns.length, if_pos h2, by omega⟩
      · exact ⟨1, if_neg h2, by omega⟩
    · rw [if_neg h]; exact ⟨2, rfl, Nat.le_refl _⟩
  refine E1_2 (hn) ?_; (try clear hn); intro n hn hn2
  refine' for_range_J (n := n) (mJ L' sc) rfl rg hn (by omega) F3 N3 ⟨o1, o2, o3, o4, x1, x2, x3, x4, none, none, none, none, none, none, none, none, none, none, e1, e2, e3, e4, rfl, rfl⟩ (goOn ?turn) (goOn ?done)
  case turn =>
    intro I i t m₁ news₁ it h tk hi hI hoff hJ F2 N2
    try k_fold
    refine E18_6 (hJ) ?_; (try clear hJ); intro p1 p2 p3 p4 y1 y2 y3 y4 v0 v1 v2 v3 v4 v5 v6 v7 v8 v9 d1 d2 d3 d4 hq2 hq3; obtain rfl := hq2; obtain rfl := hq3
    have hIc : OffC L' (I, it) := ⟨Ne.symm (hoff _ (.tail _ (.tail _ (.tail _ (.head _))))), Ne.symm (hoff _ (.tail _ (.tail _ (.head _)))), Ne.symm (hoff _ (.tail _ (.head _))), Ne.symm (hoff _ (.head _))⟩
    refine law_T w (k := (i : Int)) (ti := t) B X T (Fr.of_eq (by k_extra "MAP") F2) N2 hIc d1 d2 d3 d4 hsc hns hlen (by omega) (by omega) hd hu hP ?_
    intro h' tk' p1 p2 p3 p4 y1 y2 y3 y4 v1 v2 v3 v4 v5 v6 v7 v8 v9 d1 d2 d3 d4 F4 N4
    try k_fold
    refine JPost.fin (cels L' p4 p3 p2 p1 []) F4 N4 (fun p hp => hp) (fun p hp => ?_) ⟨p1, p2, p3, p4, y1, y2, y3, y4, some (.int (i : Int) t), v1, v2, v3, v4, v5, v6, v7, v8, v9, d1, d2, d3, d4, rfl, rfl⟩
    rcases List.mem_cons.mp hp with rfl | hp
    · exact Ne.symm hIc.2.2.2
    rcases List.mem_cons.mp hp with rfl | hp
    · exact Ne.symm hIc.2.2.1
    rcases List.mem_cons.mp hp with rfl | hp
    · exact Ne.symm hIc.2.1
    rcases List.mem_cons.mp hp with rfl | hp
    · exact Ne.symm hIc.1
    · exact absurd hp List.not_mem_nil
  case done =>
    intro m₁ news₁ h tk hJ F2 N2
    try k_fold
    refine E18_6 (hJ) ?_; (try clear hJ); intro p1 p2 p3 p4 y1 y2 y3 y4 v0 v1 v2 v3 v4 v5 v6 v7 v8 v9 d1 d2 d3 d4 hq4 hq5; obtain rfl := hq4; obtain rfl := hq5
    k_steps
    exact fin _ _ _ F2
end

-- part p50_holds.lean
section
open PySem.Calls PyProof.V PySem.Spec PyProof.Rows
local macro_rules | `(tactic| walk_at "call ref") => `(tactic| k_extra "W13")
local macro_rules | `(tactic| k_qdec) => `(tactic| decide +kernel)

set_option maxRecDepth 100000 in
set_option maxHeartbeats 0 in
theorem holds : PySem.Challenge.rw_nu0068_01.Holds := by
  w_on; refine holds_law ?said fun said => ?_; (case said => kernel_rfl)
  refine holds_open (q := q) (loose := loose) (Xt := fun s => xlAt q [] s && recOk (RowW.records r.toRowW) s) (XP := XL q []) (Yf := Hook.obs H) (Ya := Hook.val H) (YP := Hook.says H) (N := 6692) left (Hook.of H) (Hook.keeps H) (fun s e => xl_of s (Bool.and_eq_true_iff.mp e).1) XL.keeps (by rfl) (by rfl) (by rfl) (fun s e => recFacts_of (Bool.and_eq_true_iff.mp e).2) (by rfl) (by first | assumption | decide +kernel) (by decide +kernel) ⟨rfl, rfl, rfl, rfl, rfl, by decide +kernel⟩ ?hw ?hc
  case hw => w_witness2
  w_strict k_go0
  rename Top _ _ _ _ _ _ => T0
  rename Below _ _ _ _ => B0
  rename (KF _).In _ => X0
  rename Fr _ _ _ _ => F0
  rename News _ _ _ _ => N0
  rename Heap.IsList _ _ _ => hL0
  rename IntsAre _ _ => hI0
  rename ¬ (_ < _) => hc0
  have hlen := hI0.length
  rename_i w3 w2 w1 w0 c3 c2 c1 c0 _
  have F1 := Fr.of_eq (bindL_mk (l := [(st "script", .ref _)]) (by with_unfolding_all rfl)) F0
  with_unfolding_all refine law_M _ B0 X0 T0 (Fr.of_eq ?m F1) N0 c0 c1 c2 c3 hL0 hI0 ?hl ?hd ?hu ?hP ?fin
  case m => k_extra "MAP"
  case hl => omega
  case hd => first | decide | ktr_room
  case hu => first | decide | ktr_units
  case hP => passes_own
  case fin =>
    intro h' tk' m9 F9
    clear F0 F1
    dsimp only
    kc_close
end

end Mine
set_option maxRecDepth 100000 in
set_option maxHeartbeats 0 in
theorem PySem.Challenge.cw_nu0068_01_holds : PySem.Challenge.rw_nu0068_01.Holds := by
  exact Mine.holds
