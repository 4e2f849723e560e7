import PyProof.Rows.All
import Wide.All
import OpenK.AllK
import Wide.FinOn
import Lean
import PySem.Challenge.RW_qd0072_01
set_option Elab.async false
set_option linter.all false
set_option maxRecDepth 100000
section
open PySem PySem.W PyProof.Rows
set_option maxHeartbeats 0
namespace Mine
noncomputable section

noncomputable def nth : List Stmt → Nat → Stmt
  | [], _ => .Pass ⟨0, 0, 0, 0⟩
  | x :: _, 0 => x
  | _ :: l, n + 1 => nth l n
noncomputable def tp (i : Nat) : Stmt := nth PySem.Challenge.pw_qd0072_01.main.body i
noncomputable def fA : Stmt → Arguments
  | .FunctionDef _ a _ _ _ _ _ _ _ _ => a
  | _ => ⟨[], [], none, [], [], none, []⟩
noncomputable def fB : Stmt → List Stmt
  | .FunctionDef _ _ b _ _ _ _ _ _ _ => b
  | _ => []
noncomputable def cB : Stmt → List Stmt
  | .ClassDef _ _ _ b _ _ _ _ _ _ _ => b
  | _ => []
noncomputable def fS : Stmt → Scope
  | .FunctionDef _ _ _ _ _ _ s _ _ _ => s
  | _ => PySem.Challenge.pw_qd0072_01.main.scope
noncomputable def dE (P : Params) (n : String) (t : Nat) (v : Value) : DictEntry := ⟨PyData.keyHash P (.ofString n), .str (.ofString n) t, v⟩
def Lt {T : Type} (s : T) := (x : T) → x = s → T
theorem rlit : True := by
  k_with "l" => ((case F => exact fun x _ => x); (case h => (conv => rhs; whnf)))
  trivial
noncomputable def a_0:Arguments:=by refine' (?F:Lt (fA (tp 0))) _ ?h;k_extra "l"
noncomputable def b_0:List Stmt:=by refine' (?F:Lt (fB (tp 0))) _ ?h;k_extra "l"
noncomputable def s_0:Scope:=by refine' (?F:Lt (fS (tp 0))) _ ?h;k_extra "l"
noncomputable def a_10_0:Arguments:=by refine' (?F:Lt (fA (nth (cB (tp 10)) 0))) _ ?h;k_extra "l"
noncomputable def b_10_0:List Stmt:=by refine' (?F:Lt (fB (nth (cB (tp 10)) 0))) _ ?h;k_extra "l"
noncomputable def s_10_0:Scope:=by refine' (?F:Lt (fS (nth (cB (tp 10)) 0))) _ ?h;k_extra "l"
noncomputable def a_10_1:Arguments:=by refine' (?F:Lt (fA (nth (cB (tp 10)) 1))) _ ?h;k_extra "l"
noncomputable def b_10_1:List Stmt:=by refine' (?F:Lt (fB (nth (cB (tp 10)) 1))) _ ?h;k_extra "l"
noncomputable def s_10_1:Scope:=by refine' (?F:Lt (fS (nth (cB (tp 10)) 1))) _ ?h;k_extra "l"
noncomputable def a_11:Arguments:=by refine' (?F:Lt (fA (tp 11))) _ ?h;k_extra "l"
noncomputable def b_11:List Stmt:=by refine' (?F:Lt (fB (tp 11))) _ ?h;k_extra "l"
noncomputable def s_11:Scope:=by refine' (?F:Lt (fS (tp 11))) _ ?h;k_extra "l"
noncomputable def a_12_0:Arguments:=by refine' (?F:Lt (fA (nth (cB (tp 12)) 0))) _ ?h;k_extra "l"
noncomputable def b_12_0:List Stmt:=by refine' (?F:Lt (fB (nth (cB (tp 12)) 0))) _ ?h;k_extra "l"
noncomputable def s_12_0:Scope:=by refine' (?F:Lt (fS (nth (cB (tp 12)) 0))) _ ?h;k_extra "l"
noncomputable def a_12_1:Arguments:=by refine' (?F:Lt (fA (nth (cB (tp 12)) 1))) _ ?h;k_extra "l"
noncomputable def b_12_1:List Stmt:=by refine' (?F:Lt (fB (nth (cB (tp 12)) 1))) _ ?h;k_extra "l"
noncomputable def s_12_1:Scope:=by refine' (?F:Lt (fS (nth (cB (tp 12)) 1))) _ ?h;k_extra "l"
noncomputable def a_15_0:Arguments:=by refine' (?F:Lt (fA (nth (cB (tp 15)) 0))) _ ?h;k_extra "l"
noncomputable def b_15_0:List Stmt:=by refine' (?F:Lt (fB (nth (cB (tp 15)) 0))) _ ?h;k_extra "l"
noncomputable def s_15_0:Scope:=by refine' (?F:Lt (fS (nth (cB (tp 15)) 0))) _ ?h;k_extra "l"
noncomputable def a_15_1:Arguments:=by refine' (?F:Lt (fA (nth (cB (tp 15)) 1))) _ ?h;k_extra "l"
noncomputable def b_15_1:List Stmt:=by refine' (?F:Lt (fB (nth (cB (tp 15)) 1))) _ ?h;k_extra "l"
noncomputable def s_15_1:Scope:=by refine' (?F:Lt (fS (nth (cB (tp 15)) 1))) _ ?h;k_extra "l"
noncomputable def a_15_2:Arguments:=by refine' (?F:Lt (fA (nth (cB (tp 15)) 2))) _ ?h;k_extra "l"
noncomputable def b_15_2:List Stmt:=by refine' (?F:Lt (fB (nth (cB (tp 15)) 2))) _ ?h;k_extra "l"
noncomputable def s_15_2:Scope:=by refine' (?F:Lt (fS (nth (cB (tp 15)) 2))) _ ?h;k_extra "l"
noncomputable def a_15_3:Arguments:=by refine' (?F:Lt (fA (nth (cB (tp 15)) 3))) _ ?h;k_extra "l"
noncomputable def b_15_3:List Stmt:=by refine' (?F:Lt (fB (nth (cB (tp 15)) 3))) _ ?h;k_extra "l"
noncomputable def s_15_3:Scope:=by refine' (?F:Lt (fS (nth (cB (tp 15)) 3))) _ ?h;k_extra "l"
noncomputable def a_15_4:Arguments:=by refine' (?F:Lt (fA (nth (cB (tp 15)) 4))) _ ?h;k_extra "l"
noncomputable def b_15_4:List Stmt:=by refine' (?F:Lt (fB (nth (cB (tp 15)) 4))) _ ?h;k_extra "l"
noncomputable def s_15_4:Scope:=by refine' (?F:Lt (fS (nth (cB (tp 15)) 4))) _ ?h;k_extra "l"
noncomputable def a_15_5:Arguments:=by refine' (?F:Lt (fA (nth (cB (tp 15)) 5))) _ ?h;k_extra "l"
noncomputable def b_15_5:List Stmt:=by refine' (?F:Lt (fB (nth (cB (tp 15)) 5))) _ ?h;k_extra "l"
noncomputable def s_15_5:Scope:=by refine' (?F:Lt (fS (nth (cB (tp 15)) 5))) _ ?h;k_extra "l"
noncomputable def a_15_6:Arguments:=by refine' (?F:Lt (fA (nth (cB (tp 15)) 6))) _ ?h;k_extra "l"
noncomputable def b_15_6:List Stmt:=by refine' (?F:Lt (fB (nth (cB (tp 15)) 6))) _ ?h;k_extra "l"
noncomputable def s_15_6:Scope:=by refine' (?F:Lt (fS (nth (cB (tp 15)) 6))) _ ?h;k_extra "l"
noncomputable def a_15_7:Arguments:=by refine' (?F:Lt (fA (nth (cB (tp 15)) 7))) _ ?h;k_extra "l"
noncomputable def b_15_7:List Stmt:=by refine' (?F:Lt (fB (nth (cB (tp 15)) 7))) _ ?h;k_extra "l"
noncomputable def s_15_7:Scope:=by refine' (?F:Lt (fS (nth (cB (tp 15)) 7))) _ ?h;k_extra "l"
noncomputable def a_15_8:Arguments:=by refine' (?F:Lt (fA (nth (cB (tp 15)) 8))) _ ?h;k_extra "l"
noncomputable def b_15_8:List Stmt:=by refine' (?F:Lt (fB (nth (cB (tp 15)) 8))) _ ?h;k_extra "l"
noncomputable def s_15_8:Scope:=by refine' (?F:Lt (fS (nth (cB (tp 15)) 8))) _ ?h;k_extra "l"
noncomputable def a_15_9:Arguments:=by refine' (?F:Lt (fA (nth (cB (tp 15)) 9))) _ ?h;k_extra "l"
noncomputable def b_15_9:List Stmt:=by refine' (?F:Lt (fB (nth (cB (tp 15)) 9))) _ ?h;k_extra "l"
noncomputable def s_15_9:Scope:=by refine' (?F:Lt (fS (nth (cB (tp 15)) 9))) _ ?h;k_extra "l"
noncomputable def a_15_10:Arguments:=by refine' (?F:Lt (fA (nth (cB (tp 15)) 10))) _ ?h;k_extra "l"
noncomputable def b_15_10:List Stmt:=by refine' (?F:Lt (fB (nth (cB (tp 15)) 10))) _ ?h;k_extra "l"
noncomputable def s_15_10:Scope:=by refine' (?F:Lt (fS (nth (cB (tp 15)) 10))) _ ?h;k_extra "l"
noncomputable def a_15_11:Arguments:=by refine' (?F:Lt (fA (nth (cB (tp 15)) 11))) _ ?h;k_extra "l"
noncomputable def b_15_11:List Stmt:=by refine' (?F:Lt (fB (nth (cB (tp 15)) 11))) _ ?h;k_extra "l"
noncomputable def s_15_11:Scope:=by refine' (?F:Lt (fS (nth (cB (tp 15)) 11))) _ ?h;k_extra "l"
noncomputable def a_15_12:Arguments:=by refine' (?F:Lt (fA (nth (cB (tp 15)) 12))) _ ?h;k_extra "l"
noncomputable def b_15_12:List Stmt:=by refine' (?F:Lt (fB (nth (cB (tp 15)) 12))) _ ?h;k_extra "l"
noncomputable def s_15_12:Scope:=by refine' (?F:Lt (fS (nth (cB (tp 15)) 12))) _ ?h;k_extra "l"
noncomputable def a_15_13:Arguments:=by refine' (?F:Lt (fA (nth (cB (tp 15)) 13))) _ ?h;k_extra "l"
noncomputable def b_15_13:List Stmt:=by refine' (?F:Lt (fB (nth (cB (tp 15)) 13))) _ ?h;k_extra "l"
noncomputable def s_15_13:Scope:=by refine' (?F:Lt (fS (nth (cB (tp 15)) 13))) _ ?h;k_extra "l"
noncomputable def a_15_14:Arguments:=by refine' (?F:Lt (fA (nth (cB (tp 15)) 14))) _ ?h;k_extra "l"
noncomputable def b_15_14:List Stmt:=by refine' (?F:Lt (fB (nth (cB (tp 15)) 14))) _ ?h;k_extra "l"
noncomputable def s_15_14:Scope:=by refine' (?F:Lt (fS (nth (cB (tp 15)) 14))) _ ?h;k_extra "l"
noncomputable def a_15_15:Arguments:=by refine' (?F:Lt (fA (nth (cB (tp 15)) 15))) _ ?h;k_extra "l"
noncomputable def b_15_15:List Stmt:=by refine' (?F:Lt (fB (nth (cB (tp 15)) 15))) _ ?h;k_extra "l"
noncomputable def s_15_15:Scope:=by refine' (?F:Lt (fS (nth (cB (tp 15)) 15))) _ ?h;k_extra "l"
noncomputable def a_27_0:Arguments:=by refine' (?F:Lt (fA (nth (cB (tp 27)) 0))) _ ?h;k_extra "l"
noncomputable def b_27_0:List Stmt:=by refine' (?F:Lt (fB (nth (cB (tp 27)) 0))) _ ?h;k_extra "l"
noncomputable def s_27_0:Scope:=by refine' (?F:Lt (fS (nth (cB (tp 27)) 0))) _ ?h;k_extra "l"
noncomputable def a_28:Arguments:=by refine' (?F:Lt (fA (tp 28))) _ ?h;k_extra "l"
noncomputable def b_28:List Stmt:=by refine' (?F:Lt (fB (tp 28))) _ ?h;k_extra "l"
noncomputable def s_28:Scope:=by refine' (?F:Lt (fS (tp 28))) _ ?h;k_extra "l"
noncomputable def a_29:Arguments:=by refine' (?F:Lt (fA (tp 29))) _ ?h;k_extra "l"
noncomputable def b_29:List Stmt:=by refine' (?F:Lt (fB (tp 29))) _ ?h;k_extra "l"
noncomputable def s_29:Scope:=by refine' (?F:Lt (fS (tp 29))) _ ?h;k_extra "l"
noncomputable def a_30:Arguments:=by refine' (?F:Lt (fA (tp 30))) _ ?h;k_extra "l"
noncomputable def b_30:List Stmt:=by refine' (?F:Lt (fB (tp 30))) _ ?h;k_extra "l"
noncomputable def s_30:Scope:=by refine' (?F:Lt (fS (tp 30))) _ ?h;k_extra "l"
noncomputable def a_31:Arguments:=by refine' (?F:Lt (fA (tp 31))) _ ?h;k_extra "l"
noncomputable def b_31:List Stmt:=by refine' (?F:Lt (fB (tp 31))) _ ?h;k_extra "l"
noncomputable def s_31:Scope:=by refine' (?F:Lt (fS (tp 31))) _ ?h;k_extra "l"
noncomputable def a_32_0:Arguments:=by refine' (?F:Lt (fA (nth (cB (tp 32)) 0))) _ ?h;k_extra "l"
noncomputable def b_32_0:List Stmt:=by refine' (?F:Lt (fB (nth (cB (tp 32)) 0))) _ ?h;k_extra "l"
noncomputable def s_32_0:Scope:=by refine' (?F:Lt (fS (nth (cB (tp 32)) 0))) _ ?h;k_extra "l"
noncomputable def a_32_1:Arguments:=by refine' (?F:Lt (fA (nth (cB (tp 32)) 1))) _ ?h;k_extra "l"
noncomputable def b_32_1:List Stmt:=by refine' (?F:Lt (fB (nth (cB (tp 32)) 1))) _ ?h;k_extra "l"
noncomputable def s_32_1:Scope:=by refine' (?F:Lt (fS (nth (cB (tp 32)) 1))) _ ?h;k_extra "l"
noncomputable def a_32_2:Arguments:=by refine' (?F:Lt (fA (nth (cB (tp 32)) 2))) _ ?h;k_extra "l"
noncomputable def b_32_2:List Stmt:=by refine' (?F:Lt (fB (nth (cB (tp 32)) 2))) _ ?h;k_extra "l"
noncomputable def s_32_2:Scope:=by refine' (?F:Lt (fS (nth (cB (tp 32)) 2))) _ ?h;k_extra "l"
noncomputable def a_32_3:Arguments:=by refine' (?F:Lt (fA (nth (cB (tp 32)) 3))) _ ?h;k_extra "l"
noncomputable def b_32_3:List Stmt:=by refine' (?F:Lt (fB (nth (cB (tp 32)) 3))) _ ?h;k_extra "l"
noncomputable def s_32_3:Scope:=by refine' (?F:Lt (fS (nth (cB (tp 32)) 3))) _ ?h;k_extra "l"
noncomputable def a_32_4:Arguments:=by refine' (?F:Lt (fA (nth (cB (tp 32)) 4))) _ ?h;k_extra "l"
noncomputable def b_32_4:List Stmt:=by refine' (?F:Lt (fB (nth (cB (tp 32)) 4))) _ ?h;k_extra "l"
noncomputable def s_32_4:Scope:=by refine' (?F:Lt (fS (nth (cB (tp 32)) 4))) _ ?h;k_extra "l"
noncomputable def a_32_5:Arguments:=by refine' (?F:Lt (fA (nth (cB (tp 32)) 5))) _ ?h;k_extra "l"
noncomputable def b_32_5:List Stmt:=by refine' (?F:Lt (fB (nth (cB (tp 32)) 5))) _ ?h;k_extra "l"
noncomputable def s_32_5:Scope:=by refine' (?F:Lt (fS (nth (cB (tp 32)) 5))) _ ?h;k_extra "l"
noncomputable def a_32_6:Arguments:=by refine' (?F:Lt (fA (nth (cB (tp 32)) 6))) _ ?h;k_extra "l"
noncomputable def b_32_6:List Stmt:=by refine' (?F:Lt (fB (nth (cB (tp 32)) 6))) _ ?h;k_extra "l"
noncomputable def s_32_6:Scope:=by refine' (?F:Lt (fS (nth (cB (tp 32)) 6))) _ ?h;k_extra "l"
noncomputable def a_32_7:Arguments:=by refine' (?F:Lt (fA (nth (cB (tp 32)) 7))) _ ?h;k_extra "l"
noncomputable def b_32_7:List Stmt:=by refine' (?F:Lt (fB (nth (cB (tp 32)) 7))) _ ?h;k_extra "l"
noncomputable def s_32_7:Scope:=by refine' (?F:Lt (fS (nth (cB (tp 32)) 7))) _ ?h;k_extra "l"
noncomputable def a_32_8:Arguments:=by refine' (?F:Lt (fA (nth (cB (tp 32)) 8))) _ ?h;k_extra "l"
noncomputable def b_32_8:List Stmt:=by refine' (?F:Lt (fB (nth (cB (tp 32)) 8))) _ ?h;k_extra "l"
noncomputable def s_32_8:Scope:=by refine' (?F:Lt (fS (nth (cB (tp 32)) 8))) _ ?h;k_extra "l"
noncomputable def a_32_9:Arguments:=by refine' (?F:Lt (fA (nth (cB (tp 32)) 9))) _ ?h;k_extra "l"
noncomputable def b_32_9:List Stmt:=by refine' (?F:Lt (fB (nth (cB (tp 32)) 9))) _ ?h;k_extra "l"
noncomputable def s_32_9:Scope:=by refine' (?F:Lt (fS (nth (cB (tp 32)) 9))) _ ?h;k_extra "l"
noncomputable def a_32_10:Arguments:=by refine' (?F:Lt (fA (nth (cB (tp 32)) 10))) _ ?h;k_extra "l"
noncomputable def b_32_10:List Stmt:=by refine' (?F:Lt (fB (nth (cB (tp 32)) 10))) _ ?h;k_extra "l"
noncomputable def s_32_10:Scope:=by refine' (?F:Lt (fS (nth (cB (tp 32)) 10))) _ ?h;k_extra "l"
noncomputable def a_32_11:Arguments:=by refine' (?F:Lt (fA (nth (cB (tp 32)) 11))) _ ?h;k_extra "l"
noncomputable def b_32_11:List Stmt:=by refine' (?F:Lt (fB (nth (cB (tp 32)) 11))) _ ?h;k_extra "l"
noncomputable def s_32_11:Scope:=by refine' (?F:Lt (fS (nth (cB (tp 32)) 11))) _ ?h;k_extra "l"
noncomputable def a_32_12:Arguments:=by refine' (?F:Lt (fA (nth (cB (tp 32)) 12))) _ ?h;k_extra "l"
noncomputable def b_32_12:List Stmt:=by refine' (?F:Lt (fB (nth (cB (tp 32)) 12))) _ ?h;k_extra "l"
noncomputable def s_32_12:Scope:=by refine' (?F:Lt (fS (nth (cB (tp 32)) 12))) _ ?h;k_extra "l"
noncomputable def a_32_13:Arguments:=by refine' (?F:Lt (fA (nth (cB (tp 32)) 13))) _ ?h;k_extra "l"
noncomputable def b_32_13:List Stmt:=by refine' (?F:Lt (fB (nth (cB (tp 32)) 13))) _ ?h;k_extra "l"
noncomputable def s_32_13:Scope:=by refine' (?F:Lt (fS (nth (cB (tp 32)) 13))) _ ?h;k_extra "l"
noncomputable def a_32_14:Arguments:=by refine' (?F:Lt (fA (nth (cB (tp 32)) 14))) _ ?h;k_extra "l"
noncomputable def b_32_14:List Stmt:=by refine' (?F:Lt (fB (nth (cB (tp 32)) 14))) _ ?h;k_extra "l"
noncomputable def s_32_14:Scope:=by refine' (?F:Lt (fS (nth (cB (tp 32)) 14))) _ ?h;k_extra "l"
noncomputable def a_32_15:Arguments:=by refine' (?F:Lt (fA (nth (cB (tp 32)) 15))) _ ?h;k_extra "l"
noncomputable def b_32_15:List Stmt:=by refine' (?F:Lt (fB (nth (cB (tp 32)) 15))) _ ?h;k_extra "l"
noncomputable def s_32_15:Scope:=by refine' (?F:Lt (fS (nth (cB (tp 32)) 15))) _ ?h;k_extra "l"
noncomputable def a_32_16:Arguments:=by refine' (?F:Lt (fA (nth (cB (tp 32)) 16))) _ ?h;k_extra "l"
noncomputable def b_32_16:List Stmt:=by refine' (?F:Lt (fB (nth (cB (tp 32)) 16))) _ ?h;k_extra "l"
noncomputable def s_32_16:Scope:=by refine' (?F:Lt (fS (nth (cB (tp 32)) 16))) _ ?h;k_extra "l"
noncomputable def a_32_17:Arguments:=by refine' (?F:Lt (fA (nth (cB (tp 32)) 17))) _ ?h;k_extra "l"
noncomputable def b_32_17:List Stmt:=by refine' (?F:Lt (fB (nth (cB (tp 32)) 17))) _ ?h;k_extra "l"
noncomputable def s_32_17:Scope:=by refine' (?F:Lt (fS (nth (cB (tp 32)) 17))) _ ?h;k_extra "l"
noncomputable def a_32_18:Arguments:=by refine' (?F:Lt (fA (nth (cB (tp 32)) 18))) _ ?h;k_extra "l"
noncomputable def b_32_18:List Stmt:=by refine' (?F:Lt (fB (nth (cB (tp 32)) 18))) _ ?h;k_extra "l"
noncomputable def s_32_18:Scope:=by refine' (?F:Lt (fS (nth (cB (tp 32)) 18))) _ ?h;k_extra "l"
noncomputable def a_32_19:Arguments:=by refine' (?F:Lt (fA (nth (cB (tp 32)) 19))) _ ?h;k_extra "l"
noncomputable def b_32_19:List Stmt:=by refine' (?F:Lt (fB (nth (cB (tp 32)) 19))) _ ?h;k_extra "l"
noncomputable def s_32_19:Scope:=by refine' (?F:Lt (fS (nth (cB (tp 32)) 19))) _ ?h;k_extra "l"
noncomputable def a_33:Arguments:=by refine' (?F:Lt (fA (tp 33))) _ ?h;k_extra "l"
noncomputable def b_33:List Stmt:=by refine' (?F:Lt (fB (tp 33))) _ ?h;k_extra "l"
noncomputable def s_33:Scope:=by refine' (?F:Lt (fS (tp 33))) _ ?h;k_extra "l"
noncomputable def a_34:Arguments:=by refine' (?F:Lt (fA (tp 34))) _ ?h;k_extra "l"
noncomputable def b_34:List Stmt:=by refine' (?F:Lt (fB (tp 34))) _ ?h;k_extra "l"
noncomputable def s_34:Scope:=by refine' (?F:Lt (fS (tp 34))) _ ?h;k_extra "l"
noncomputable def a_39:Arguments:=by refine' (?F:Lt (fA (tp 39))) _ ?h;k_extra "l"
noncomputable def b_39:List Stmt:=by refine' (?F:Lt (fB (tp 39))) _ ?h;k_extra "l"
noncomputable def s_39:Scope:=by refine' (?F:Lt (fS (tp 39))) _ ?h;k_extra "l"
noncomputable def a_40:Arguments:=by refine' (?F:Lt (fA (tp 40))) _ ?h;k_extra "l"
noncomputable def b_40:List Stmt:=by refine' (?F:Lt (fB (tp 40))) _ ?h;k_extra "l"
noncomputable def s_40:Scope:=by refine' (?F:Lt (fS (tp 40))) _ ?h;k_extra "l"
noncomputable def a_41:Arguments:=by refine' (?F:Lt (fA (tp 41))) _ ?h;k_extra "l"
noncomputable def b_41:List Stmt:=by refine' (?F:Lt (fB (tp 41))) _ ?h;k_extra "l"
noncomputable def s_41:Scope:=by refine' (?F:Lt (fS (tp 41))) _ ?h;k_extra "l"
noncomputable def a_42:Arguments:=by refine' (?F:Lt (fA (tp 42))) _ ?h;k_extra "l"
noncomputable def b_42:List Stmt:=by refine' (?F:Lt (fB (tp 42))) _ ?h;k_extra "l"
noncomputable def s_42:Scope:=by refine' (?F:Lt (fS (tp 42))) _ ?h;k_extra "l"
noncomputable def a_43:Arguments:=by refine' (?F:Lt (fA (tp 43))) _ ?h;k_extra "l"
noncomputable def b_43:List Stmt:=by refine' (?F:Lt (fB (tp 43))) _ ?h;k_extra "l"
noncomputable def s_43:Scope:=by refine' (?F:Lt (fS (tp 43))) _ ?h;k_extra "l"
noncomputable def a_44:Arguments:=by refine' (?F:Lt (fA (tp 44))) _ ?h;k_extra "l"
noncomputable def b_44:List Stmt:=by refine' (?F:Lt (fB (tp 44))) _ ?h;k_extra "l"
noncomputable def s_44:Scope:=by refine' (?F:Lt (fS (tp 44))) _ ?h;k_extra "l"
noncomputable def a_45:Arguments:=by refine' (?F:Lt (fA (tp 45))) _ ?h;k_extra "l"
noncomputable def b_45:List Stmt:=by refine' (?F:Lt (fB (tp 45))) _ ?h;k_extra "l"
noncomputable def s_45:Scope:=by refine' (?F:Lt (fS (tp 45))) _ ?h;k_extra "l"
noncomputable def a_46:Arguments:=by refine' (?F:Lt (fA (tp 46))) _ ?h;k_extra "l"
noncomputable def b_46:List Stmt:=by refine' (?F:Lt (fB (tp 46))) _ ?h;k_extra "l"
noncomputable def s_46:Scope:=by refine' (?F:Lt (fS (tp 46))) _ ?h;k_extra "l"
noncomputable def a_47:Arguments:=by refine' (?F:Lt (fA (tp 47))) _ ?h;k_extra "l"
noncomputable def b_47:List Stmt:=by refine' (?F:Lt (fB (tp 47))) _ ?h;k_extra "l"
noncomputable def s_47:Scope:=by refine' (?F:Lt (fS (tp 47))) _ ?h;k_extra "l"
noncomputable def a_50:Arguments:=by refine' (?F:Lt (fA (tp 50))) _ ?h;k_extra "l"
noncomputable def b_50:List Stmt:=by refine' (?F:Lt (fB (tp 50))) _ ?h;k_extra "l"
noncomputable def s_50:Scope:=by refine' (?F:Lt (fS (tp 50))) _ ?h;k_extra "l"
noncomputable def a_51:Arguments:=by refine' (?F:Lt (fA (tp 51))) _ ?h;k_extra "l"
noncomputable def b_51:List Stmt:=by refine' (?F:Lt (fB (tp 51))) _ ?h;k_extra "l"
noncomputable def s_51:Scope:=by refine' (?F:Lt (fS (tp 51))) _ ?h;k_extra "l"
noncomputable def a_52:Arguments:=by refine' (?F:Lt (fA (tp 52))) _ ?h;k_extra "l"
noncomputable def b_52:List Stmt:=by refine' (?F:Lt (fB (tp 52))) _ ?h;k_extra "l"
noncomputable def s_52:Scope:=by refine' (?F:Lt (fS (tp 52))) _ ?h;k_extra "l"
noncomputable def a_53:Arguments:=by refine' (?F:Lt (fA (tp 53))) _ ?h;k_extra "l"
noncomputable def b_53:List Stmt:=by refine' (?F:Lt (fB (tp 53))) _ ?h;k_extra "l"
noncomputable def s_53:Scope:=by refine' (?F:Lt (fS (tp 53))) _ ?h;k_extra "l"
noncomputable def a_54:Arguments:=by refine' (?F:Lt (fA (tp 54))) _ ?h;k_extra "l"
noncomputable def b_54:List Stmt:=by refine' (?F:Lt (fB (tp 54))) _ ?h;k_extra "l"
noncomputable def s_54:Scope:=by refine' (?F:Lt (fS (tp 54))) _ ?h;k_extra "l"
noncomputable def a_55:Arguments:=by refine' (?F:Lt (fA (tp 55))) _ ?h;k_extra "l"
noncomputable def b_55:List Stmt:=by refine' (?F:Lt (fB (tp 55))) _ ?h;k_extra "l"
noncomputable def s_55:Scope:=by refine' (?F:Lt (fS (tp 55))) _ ?h;k_extra "l"
noncomputable def a_56:Arguments:=by refine' (?F:Lt (fA (tp 56))) _ ?h;k_extra "l"
noncomputable def b_56:List Stmt:=by refine' (?F:Lt (fB (tp 56))) _ ?h;k_extra "l"
noncomputable def s_56:Scope:=by refine' (?F:Lt (fS (tp 56))) _ ?h;k_extra "l"
noncomputable def a_57:Arguments:=by refine' (?F:Lt (fA (tp 57))) _ ?h;k_extra "l"
noncomputable def b_57:List Stmt:=by refine' (?F:Lt (fB (tp 57))) _ ?h;k_extra "l"
noncomputable def s_57:Scope:=by refine' (?F:Lt (fS (tp 57))) _ ?h;k_extra "l"
noncomputable def a_58:Arguments:=by refine' (?F:Lt (fA (tp 58))) _ ?h;k_extra "l"
noncomputable def b_58:List Stmt:=by refine' (?F:Lt (fB (tp 58))) _ ?h;k_extra "l"
noncomputable def s_58:Scope:=by refine' (?F:Lt (fS (tp 58))) _ ?h;k_extra "l"
noncomputable def a_59:Arguments:=by refine' (?F:Lt (fA (tp 59))) _ ?h;k_extra "l"
noncomputable def b_59:List Stmt:=by refine' (?F:Lt (fB (tp 59))) _ ?h;k_extra "l"
noncomputable def s_59:Scope:=by refine' (?F:Lt (fS (tp 59))) _ ?h;k_extra "l"
noncomputable def a_60:Arguments:=by refine' (?F:Lt (fA (tp 60))) _ ?h;k_extra "l"
noncomputable def b_60:List Stmt:=by refine' (?F:Lt (fB (tp 60))) _ ?h;k_extra "l"
noncomputable def s_60:Scope:=by refine' (?F:Lt (fS (tp 60))) _ ?h;k_extra "l"
noncomputable def a_61:Arguments:=by refine' (?F:Lt (fA (tp 61))) _ ?h;k_extra "l"
noncomputable def b_61:List Stmt:=by refine' (?F:Lt (fB (tp 61))) _ ?h;k_extra "l"
noncomputable def s_61:Scope:=by refine' (?F:Lt (fS (tp 61))) _ ?h;k_extra "l"
noncomputable def a_62:Arguments:=by refine' (?F:Lt (fA (tp 62))) _ ?h;k_extra "l"
noncomputable def b_62:List Stmt:=by refine' (?F:Lt (fB (tp 62))) _ ?h;k_extra "l"
noncomputable def s_62:Scope:=by refine' (?F:Lt (fS (tp 62))) _ ?h;k_extra "l"
noncomputable def a_63:Arguments:=by refine' (?F:Lt (fA (tp 63))) _ ?h;k_extra "l"
noncomputable def b_63:List Stmt:=by refine' (?F:Lt (fB (tp 63))) _ ?h;k_extra "l"
noncomputable def s_63:Scope:=by refine' (?F:Lt (fS (tp 63))) _ ?h;k_extra "l"
noncomputable def a_64:Arguments:=by refine' (?F:Lt (fA (tp 64))) _ ?h;k_extra "l"
noncomputable def b_64:List Stmt:=by refine' (?F:Lt (fB (tp 64))) _ ?h;k_extra "l"
noncomputable def s_64:Scope:=by refine' (?F:Lt (fS (tp 64))) _ ?h;k_extra "l"
noncomputable def a_65_0:Arguments:=by refine' (?F:Lt (fA (nth (cB (tp 65)) 0))) _ ?h;k_extra "l"
noncomputable def b_65_0:List Stmt:=by refine' (?F:Lt (fB (nth (cB (tp 65)) 0))) _ ?h;k_extra "l"
noncomputable def s_65_0:Scope:=by refine' (?F:Lt (fS (nth (cB (tp 65)) 0))) _ ?h;k_extra "l"
noncomputable def a_65_1:Arguments:=by refine' (?F:Lt (fA (nth (cB (tp 65)) 1))) _ ?h;k_extra "l"
noncomputable def b_65_1:List Stmt:=by refine' (?F:Lt (fB (nth (cB (tp 65)) 1))) _ ?h;k_extra "l"
noncomputable def s_65_1:Scope:=by refine' (?F:Lt (fS (nth (cB (tp 65)) 1))) _ ?h;k_extra "l"
noncomputable def a_65_2:Arguments:=by refine' (?F:Lt (fA (nth (cB (tp 65)) 2))) _ ?h;k_extra "l"
noncomputable def b_65_2:List Stmt:=by refine' (?F:Lt (fB (nth (cB (tp 65)) 2))) _ ?h;k_extra "l"
noncomputable def s_65_2:Scope:=by refine' (?F:Lt (fS (nth (cB (tp 65)) 2))) _ ?h;k_extra "l"
noncomputable def a_65_3:Arguments:=by refine' (?F:Lt (fA (nth (cB (tp 65)) 3))) _ ?h;k_extra "l"
noncomputable def b_65_3:List Stmt:=by refine' (?F:Lt (fB (nth (cB (tp 65)) 3))) _ ?h;k_extra "l"
noncomputable def s_65_3:Scope:=by refine' (?F:Lt (fS (nth (cB (tp 65)) 3))) _ ?h;k_extra "l"
noncomputable def a_65_4:Arguments:=by refine' (?F:Lt (fA (nth (cB (tp 65)) 4))) _ ?h;k_extra "l"
noncomputable def b_65_4:List Stmt:=by refine' (?F:Lt (fB (nth (cB (tp 65)) 4))) _ ?h;k_extra "l"
noncomputable def s_65_4:Scope:=by refine' (?F:Lt (fS (nth (cB (tp 65)) 4))) _ ?h;k_extra "l"
noncomputable def a_65_5:Arguments:=by refine' (?F:Lt (fA (nth (cB (tp 65)) 5))) _ ?h;k_extra "l"
noncomputable def b_65_5:List Stmt:=by refine' (?F:Lt (fB (nth (cB (tp 65)) 5))) _ ?h;k_extra "l"
noncomputable def s_65_5:Scope:=by refine' (?F:Lt (fS (nth (cB (tp 65)) 5))) _ ?h;k_extra "l"
noncomputable def a_66_0:Arguments:=by refine' (?F:Lt (fA (nth (cB (tp 66)) 0))) _ ?h;k_extra "l"
noncomputable def b_66_0:List Stmt:=by refine' (?F:Lt (fB (nth (cB (tp 66)) 0))) _ ?h;k_extra "l"
noncomputable def s_66_0:Scope:=by refine' (?F:Lt (fS (nth (cB (tp 66)) 0))) _ ?h;k_extra "l"
noncomputable def a_66_1:Arguments:=by refine' (?F:Lt (fA (nth (cB (tp 66)) 1))) _ ?h;k_extra "l"
noncomputable def b_66_1:List Stmt:=by refine' (?F:Lt (fB (nth (cB (tp 66)) 1))) _ ?h;k_extra "l"
noncomputable def s_66_1:Scope:=by refine' (?F:Lt (fS (nth (cB (tp 66)) 1))) _ ?h;k_extra "l"
noncomputable def a_66_2:Arguments:=by refine' (?F:Lt (fA (nth (cB (tp 66)) 2))) _ ?h;k_extra "l"
noncomputable def b_66_2:List Stmt:=by refine' (?F:Lt (fB (nth (cB (tp 66)) 2))) _ ?h;k_extra "l"
noncomputable def s_66_2:Scope:=by refine' (?F:Lt (fS (nth (cB (tp 66)) 2))) _ ?h;k_extra "l"
noncomputable def a_66_3:Arguments:=by refine' (?F:Lt (fA (nth (cB (tp 66)) 3))) _ ?h;k_extra "l"
noncomputable def b_66_3:List Stmt:=by refine' (?F:Lt (fB (nth (cB (tp 66)) 3))) _ ?h;k_extra "l"
noncomputable def s_66_3:Scope:=by refine' (?F:Lt (fS (nth (cB (tp 66)) 3))) _ ?h;k_extra "l"
noncomputable def a_66_4:Arguments:=by refine' (?F:Lt (fA (nth (cB (tp 66)) 4))) _ ?h;k_extra "l"
noncomputable def b_66_4:List Stmt:=by refine' (?F:Lt (fB (nth (cB (tp 66)) 4))) _ ?h;k_extra "l"
noncomputable def s_66_4:Scope:=by refine' (?F:Lt (fS (nth (cB (tp 66)) 4))) _ ?h;k_extra "l"
noncomputable def a_66_5:Arguments:=by refine' (?F:Lt (fA (nth (cB (tp 66)) 5))) _ ?h;k_extra "l"
noncomputable def b_66_5:List Stmt:=by refine' (?F:Lt (fB (nth (cB (tp 66)) 5))) _ ?h;k_extra "l"
noncomputable def s_66_5:Scope:=by refine' (?F:Lt (fS (nth (cB (tp 66)) 5))) _ ?h;k_extra "l"
noncomputable def a_66_6:Arguments:=by refine' (?F:Lt (fA (nth (cB (tp 66)) 6))) _ ?h;k_extra "l"
noncomputable def b_66_6:List Stmt:=by refine' (?F:Lt (fB (nth (cB (tp 66)) 6))) _ ?h;k_extra "l"
noncomputable def s_66_6:Scope:=by refine' (?F:Lt (fS (nth (cB (tp 66)) 6))) _ ?h;k_extra "l"
noncomputable def a_66_7:Arguments:=by refine' (?F:Lt (fA (nth (cB (tp 66)) 7))) _ ?h;k_extra "l"
noncomputable def b_66_7:List Stmt:=by refine' (?F:Lt (fB (nth (cB (tp 66)) 7))) _ ?h;k_extra "l"
noncomputable def s_66_7:Scope:=by refine' (?F:Lt (fS (nth (cB (tp 66)) 7))) _ ?h;k_extra "l"
noncomputable def a_66_8:Arguments:=by refine' (?F:Lt (fA (nth (cB (tp 66)) 8))) _ ?h;k_extra "l"
noncomputable def b_66_8:List Stmt:=by refine' (?F:Lt (fB (nth (cB (tp 66)) 8))) _ ?h;k_extra "l"
noncomputable def s_66_8:Scope:=by refine' (?F:Lt (fS (nth (cB (tp 66)) 8))) _ ?h;k_extra "l"
noncomputable def a_68:Arguments:=by refine' (?F:Lt (fA (tp 68))) _ ?h;k_extra "l"
noncomputable def b_68:List Stmt:=by refine' (?F:Lt (fB (tp 68))) _ ?h;k_extra "l"
noncomputable def s_68:Scope:=by refine' (?F:Lt (fS (tp 68))) _ ?h;k_extra "l"
noncomputable def a_69:Arguments:=by refine' (?F:Lt (fA (tp 69))) _ ?h;k_extra "l"
noncomputable def b_69:List Stmt:=by refine' (?F:Lt (fB (tp 69))) _ ?h;k_extra "l"
noncomputable def s_69:Scope:=by refine' (?F:Lt (fS (tp 69))) _ ?h;k_extra "l"
noncomputable def a_70:Arguments:=by refine' (?F:Lt (fA (tp 70))) _ ?h;k_extra "l"
noncomputable def b_70:List Stmt:=by refine' (?F:Lt (fB (tp 70))) _ ?h;k_extra "l"
noncomputable def s_70:Scope:=by refine' (?F:Lt (fS (tp 70))) _ ?h;k_extra "l"
noncomputable def a_71:Arguments:=by refine' (?F:Lt (fA (tp 71))) _ ?h;k_extra "l"
noncomputable def b_71:List Stmt:=by refine' (?F:Lt (fB (tp 71))) _ ?h;k_extra "l"
noncomputable def s_71:Scope:=by refine' (?F:Lt (fS (tp 71))) _ ?h;k_extra "l"
noncomputable def a_72:Arguments:=by refine' (?F:Lt (fA (tp 72))) _ ?h;k_extra "l"
noncomputable def b_72:List Stmt:=by refine' (?F:Lt (fB (tp 72))) _ ?h;k_extra "l"
noncomputable def s_72:Scope:=by refine' (?F:Lt (fS (tp 72))) _ ?h;k_extra "l"
namespace Hd
abbrev R := Params → Obj
abbrev U := Params → BT
noncomputable def S (s : String) (t : Tok) : Value := .str (.ofString s) t
noncomputable def I (n : Int) : Value := .int n 0
noncomputable def e (P : Params) (n : String) (t : Nat) (v : Addr) : DictEntry := dE P n t (.ref v)
noncomputable def s (P : Params) (n : String) (t : Nat) (v : String) (u : Tok) : DictEntry := dE P n t (.str (.ofString v) u)
noncomputable def C (n : String) (i : Tok) (q : String) (j k : Tok) (l a b c d : Int) (r : Addr) (f : Bool) (g : Addr) (x y z : Value) (u : Int) (v : Tok) : R := fun _ => ⟨(.type "code"), none, (.fields #[(.str (.ofString n) i), (.str (.ofString q) j), (.str (.ofString "/claim/cut.py") k), (.int l 0), (.int a 0), (.int b 0), (.int c 0), (.int d 0), (.ref r), (.bool f), (.int 181 0), (.ref g), .none, x, y, z, (.int u 0), (.int l 0), (.str (.ofString "/claim/cut.py") v)]), #[]⟩
noncomputable def F (n q : String) (a : Arguments) (b : List Stmt) (s : Scope) (d : Value) (m : String) (t : Tok) (c : Addr) : R := fun _ => ⟨(.type "function"), none, (.func ⟨(.ofString n), (.ofString q), a, .stmts b, s, 3, [], d, .none, .none, (.str (.ofString m) t), none, (.ref c), .none, 0⟩), #[]⟩
noncomputable def G (n q : String) (a : Arguments) (b : List Stmt) (s : Scope) : R := fun _ => ⟨.none, none, (.func ⟨(.ofString n), (.ofString q), a, .stmts b, s, 0, [], .none, .none, .none, .none, none, .none, .none, 0⟩), #[]⟩
noncomputable def T (v : Array Value) : R := fun _ => ⟨(.type "tuple"), none, (.seq v 0), #[]⟩
noncomputable def B (v : Array Value) : R := fun _ => ⟨.none, none, (.fields v), #[]⟩
noncomputable def D (v : Array DictEntry) (n : Nat) : Obj := ⟨(.type "dict"), none, (.dict v n), #[]⟩
noncomputable def N (o : R) (l r : U) : U := fun P => .node (o P) (l P) (r P)
noncomputable def z : U := fun _ => .nil
noncomputable def H (o : R) : U := N o z z
noncomputable def J (o : R) (l : U) : U := N o l z
def o43:R:=T #[]
def o44:R:=B #[]
def o45:R:=C "<module>" 182 "<module>" 183 184 1 0 0 0 0 11 false 12 .none .none .none 185 186
noncomputable def o46:R:=fun _=>⟨(.type "frame"), none, .plain, #[(some (.ref 13)), (some (.ref 3)), (some (.ref 3)), none, (some (S "__main__" 164)), none, (some (.ref 0))]⟩
def o49:R:=fun P=>D #[s P "__name__" 165 "grammarmill.source" 194, dE P "__doc__" 166 .none, dE P "__package__" 167 .none, dE P "__loader__" 168 (.builtin "__main__.__loader__#opaque"), dE P "__spec__" 169 .none, e P "__annotations__" 170 6, e P "__builtins__" 171 4, s P "__file__" 173 "/claim/cut.py" 172, dE P "__cached__" 174 .none, e P "_wall" 193 21, s P "SMALL" 197 "abcdefghijklmnopqrstuvwxyz" 196, s P "LETTERS" 200 "abcdefghijklmnopqrstuvwxyzABCDEFGHIJKLMNOPQRSTUVWXYZ" 199, s P "FIGURES" 202 "0123456789" 201, s P "NAME_SIGNS" 206 "abcdefghijklmnopqrstuvwxyzABCDEFGHIJKLMNOPQRSTUVWXYZ_0123456789" 205, s P "HEX_SIGNS" 209 "0123456789abcdefABCDEF" 208, s P "OCTAL_SIGNS" 211 "01234567" 210, dE P "MOST_FIGURES_source" 213 (.int 4000 212), e P "PLAIN_ESCAPES" 235 22] 18
def o50:R:=B #[(I 1), (I 0), (.ref 20)]
def o53:R:=T #[(S "k" 190)]
def o55:R:=G "_wall" "_wall" a_0 b_0 s_0
def o56:R:=C "_wall" 187 "_wall" 188 189 1 1 0 0 3 15 true 16 (.ref 17) (.ref 18) (.ref 19) 191 192
def o57:R:=F "_wall" "_wall" a_0 b_0 s_0 .none "__main__" 164 20
def o58:R:=fun P=>D #[dE P "n" 214 (.int 10 215), dE P "t" 216 (.int 9 217), dE P "r" 218 (.int 13 219), dE P "f" 220 (.int 12 221), dE P "v" 222 (.int 11 223), dE P "a" 224 (.int 7 225), dE P "b" 226 (.int 8 227)] 7
def o61:R:=fun P=>D #[s P "__name__" 165 "grammarmill.source" 194, dE P "__doc__" 166 .none, dE P "__package__" 167 .none, dE P "__loader__" 168 (.builtin "__main__.__loader__#opaque"), dE P "__spec__" 169 .none, e P "__annotations__" 170 6, e P "__builtins__" 171 4, s P "__file__" 173 "/claim/cut.py" 172, dE P "__cached__" 174 .none, e P "_wall" 193 21, s P "SMALL" 197 "abcdefghijklmnopqrstuvwxyz" 196, s P "LETTERS" 200 "abcdefghijklmnopqrstuvwxyzABCDEFGHIJKLMNOPQRSTUVWXYZ" 199, s P "FIGURES" 202 "0123456789" 201, s P "NAME_SIGNS" 206 "abcdefghijklmnopqrstuvwxyzABCDEFGHIJKLMNOPQRSTUVWXYZ_0123456789" 205, s P "HEX_SIGNS" 209 "0123456789abcdefABCDEF" 208, s P "OCTAL_SIGNS" 211 "01234567" 210, dE P "MOST_FIGURES_source" 213 (.int 4000 212), e P "PLAIN_ESCAPES" 235 22, e P "Position" 275 46, e P "position_of" 287 57] 20
def o62:R:=B #[(I 1), (I 0), (.ref 20), (I 13), (I 0), (.ref 28), (I 22), (I 0), (.ref 56)]
noncomputable def o64:R:=fun _=>⟨(.type "builtin_function_or_method"), none, (.fields #[(.builtin "type.__prepare__"), (.type "type")]), #[]⟩
def o65:R:=fun P=>D #[s P "__module__" 243 "grammarmill.source" 194, s P "__qualname__" 245 "Position" 244, dE P "__firstlineno__" 247 (.int 13 246), e P "__init__" 257 36, e P "told" 264 43, e P "__static_attributes__" 268 44] 6
def o67:R:=B #[(I 15), (I 4), (.ref 35), (I 20), (I 4), (.ref 42)]
def o68:R:=C "Position" 238 "Position" 239 240 13 0 0 0 0 26 false 27 .none .none .none 241 242
noncomputable def o69:R:=fun _=>⟨(.type "frame"), none, .plain, #[(some (.ref 28)), (some (.ref 3)), (some (.ref 25)), none, (some (S "grammarmill.source" 194)), none, (some (.ref 0))]⟩
def o72:R:=T #[(S "self" 251), (S "offset" 252), (S "line" 253), (S "column" 254)]
def o74:R:=G "__init__" "Position.__init__" a_10_0 b_10_0 s_10_0
def o75:R:=C "__init__" 248 "Position.__init__" 249 250 15 4 0 0 3 30 true 31 (.ref 32) (.ref 33) (.ref 34) 255 256
def o76:R:=F "__init__" "Position.__init__" a_10_0 b_10_0 s_10_0 .none "grammarmill.source" 194 35
def o79:R:=T #[(S "self" 261)]
def o81:R:=G "told" "Position.told" a_10_1 b_10_1 s_10_1
def o82:R:=C "told" 258 "Position.told" 259 260 20 1 0 0 3 37 true 38 (.ref 39) (.ref 40) (.ref 41) 262 263
def o83:R:=F "told" "Position.told" a_10_1 b_10_1 s_10_1 .none "grammarmill.source" 194 42
def o84:R:=T #[(S "column" 265), (S "line" 266), (S "offset" 267)]
def o85:R:=fun P=>D #[s P "__module__" 243 "grammarmill.source" 194, dE P "__firstlineno__" 247 (.int 13 246), e P "__init__" 257 36, e P "told" 264 43, e P "__static_attributes__" 268 44, e P "__dict__" 270 47, e P "__weakref__" 272 48, dE P "__doc__" 273 .none] 4
noncomputable def o86:R:=fun _=>⟨(.type "type"), none, (.cls ⟨(.ofString "Position"), [(.type "object")], [(.ref 46), (.type "object")], 45, (.ofString "Position"), true, [], [], false, none, false⟩), #[none, none, (some (S "Position" 236)), (some (S "Position" 244)), (some (.builtin "object.__new__")), (some (.bool true))]⟩
noncomputable def o87:R:=fun _=>⟨(.type "getset_descriptor"), none, (.fields #[(S "__dict__" 269), (.ref 46), (.builtin "function.__dict__"), (.builtin "function.__dict__#set")]), #[]⟩
noncomputable def o88:R:=fun _=>⟨(.type "getset_descriptor"), none, (.fields #[(S "__weakref__" 271), (.ref 46), (.builtin "ExceptionGroup.__weakref__"), .none]), #[]⟩
noncomputable def o89:R:=fun _=>⟨(.type "super"), none, (.fields #[(.ref 46), (.ref 46), (.ref 46)]), #[]⟩
noncomputable def o90:R:=fun _=>⟨(.type "builtin_function_or_method"), none, (.fields #[(.builtin "object.__init_subclass__"), (.ref 46)]), #[]⟩
def o93:R:=T #[(S "text" 279), (S "offset" 280), (S "at" 281), (S "line" 282), (S "begun" 283), (S "here" 284)]
def o95:R:=G "position_of" "position_of" a_11 b_11 s_11
def o96:R:=C "position_of" 276 "position_of" 277 278 22 2 0 0 3 51 true 52 (.ref 53) (.ref 54) (.ref 55) 285 286
def o97:R:=F "position_of" "position_of" a_11 b_11 s_11 .none "grammarmill.source" 194 56
noncomputable def o98:R:=fun P=>⟨.none, none, (.dict #[dE P "type.__subclasses__.Exception.0" 322 (I 82), dE P "type.__subclasses__.Exception.n" 323 (I 1)] 2), #[]⟩
def o99:R:=fun P=>D #[s P "__name__" 165 "grammarmill.source" 194, dE P "__doc__" 166 .none, dE P "__package__" 167 .none, dE P "__loader__" 168 (.builtin "__main__.__loader__#opaque"), dE P "__spec__" 169 .none, e P "__annotations__" 170 6, e P "__builtins__" 171 4, s P "__file__" 173 "/claim/cut.py" 172, dE P "__cached__" 174 .none, e P "_wall" 193 21, s P "SMALL" 197 "abcdefghijklmnopqrstuvwxyz" 196, s P "LETTERS" 200 "abcdefghijklmnopqrstuvwxyzABCDEFGHIJKLMNOPQRSTUVWXYZ" 199, s P "FIGURES" 202 "0123456789" 201, s P "NAME_SIGNS" 206 "abcdefghijklmnopqrstuvwxyzABCDEFGHIJKLMNOPQRSTUVWXYZ_0123456789" 205, s P "HEX_SIGNS" 209 "0123456789abcdefABCDEF" 208, s P "OCTAL_SIGNS" 211 "01234567" 210, dE P "MOST_FIGURES_source" 213 (.int 4000 212), e P "PLAIN_ESCAPES" 235 22, e P "Position" 275 46, e P "position_of" 287 57, e P "ToolError" 325 82] 21
def o100:R:=B #[(I 1), (I 0), (.ref 20), (I 13), (I 0), (.ref 28), (I 22), (I 0), (.ref 56), (I 31), (I 0), (.ref 63)]
def o101:R:=T #[(.type "Exception")]
def o103:R:=fun P=>D #[s P "__module__" 295 "grammarmill.source" 194, s P "__qualname__" 297 "ToolError" 296, dE P "__firstlineno__" 299 (.int 31 298), e P "__init__" 308 72, e P "told" 315 79, e P "__static_attributes__" 318 80] 6
def o105:R:=B #[(I 33), (I 4), (.ref 71), (I 38), (I 4), (.ref 78)]
def o106:R:=C "ToolError" 290 "ToolError" 291 292 31 0 0 0 0 61 false 62 .none .none .none 293 294
noncomputable def o107:R:=fun _=>⟨(.type "frame"), none, .plain, #[(some (.ref 63)), (some (.ref 3)), (some (.ref 60)), none, (some (S "grammarmill.source" 194)), none, (some (.ref 0))]⟩
def o108:R:=T #[.none]
def o111:R:=T #[(S "self" 303), (S "what" 304), (S "at" 305)]
def o113:R:=G "__init__" "ToolError.__init__" a_12_0 b_12_0 s_12_0
def o114:R:=C "__init__" 300 "ToolError.__init__" 301 302 33 3 0 0 3 66 true 67 (.ref 68) (.ref 69) (.ref 70) 306 307
def o115:R:=F "__init__" "ToolError.__init__" a_12_0 b_12_0 s_12_0 (.ref 65) "grammarmill.source" 194 71
def o118:R:=T #[(S "self" 312)]
def o120:R:=G "told" "ToolError.told" a_12_1 b_12_1 s_12_1
def o121:R:=C "told" 309 "ToolError.told" 310 311 38 1 0 0 3 73 true 74 (.ref 75) (.ref 76) (.ref 77) 313 314
def o122:R:=F "told" "ToolError.told" a_12_1 b_12_1 s_12_1 .none "grammarmill.source" 194 78
def o123:R:=T #[(S "at" 316), (S "what" 317)]
def o124:R:=fun P=>D #[s P "__module__" 295 "grammarmill.source" 194, dE P "__firstlineno__" 299 (.int 31 298), e P "__init__" 308 72, e P "told" 315 79, e P "__static_attributes__" 318 80, e P "__weakref__" 320 83, dE P "__doc__" 321 .none] 3
noncomputable def o125:R:=fun _=>⟨(.type "type"), none, (.cls ⟨(.ofString "ToolError"), [(.type "Exception")], [(.ref 82), (.type "Exception"), (.type "BaseException"), (.type "object")], 81, (.ofString "ToolError"), true, [], [], false, none, false⟩), #[(some (.ref 58)), none, (some (S "ToolError" 288)), (some (S "ToolError" 296)), (some (.builtin "Exception.__new__")), (some (.bool true))]⟩
noncomputable def o126:R:=fun _=>⟨(.type "getset_descriptor"), none, (.fields #[(S "__weakref__" 319), (.ref 82), (.builtin "ExceptionGroup.__weakref__"), .none]), #[]⟩
noncomputable def o127:R:=fun _=>⟨(.type "super"), none, (.fields #[(.ref 82), (.ref 82), (.ref 82)]), #[]⟩
noncomputable def o128:R:=fun _=>⟨(.type "builtin_function_or_method"), none, (.fields #[(.builtin "object.__init_subclass__"), (.ref 82)]), #[]⟩
def o129:R:=fun P=>D #[s P "__name__" 165 "grammarmill.source" 194, dE P "__doc__" 166 .none, dE P "__package__" 167 .none, dE P "__loader__" 168 (.builtin "__main__.__loader__#opaque"), dE P "__spec__" 169 .none, e P "__annotations__" 170 6, e P "__builtins__" 171 4, s P "__file__" 173 "/claim/cut.py" 172, dE P "__cached__" 174 .none, e P "_wall" 193 21, s P "SMALL" 197 "abcdefghijklmnopqrstuvwxyz" 196, s P "LETTERS" 200 "abcdefghijklmnopqrstuvwxyzABCDEFGHIJKLMNOPQRSTUVWXYZ" 199, s P "FIGURES" 202 "0123456789" 201, s P "NAME_SIGNS" 206 "abcdefghijklmnopqrstuvwxyzABCDEFGHIJKLMNOPQRSTUVWXYZ_0123456789" 205, s P "HEX_SIGNS" 209 "0123456789abcdefABCDEF" 208, s P "OCTAL_SIGNS" 211 "01234567" 210, dE P "MOST_FIGURES_source" 213 (.int 4000 212), e P "PLAIN_ESCAPES" 235 22, e P "Position" 275 46, e P "position_of" 287 57, e P "ToolError" 325 82, e P "ActionError" 341 95] 22
def o130:R:=B #[(I 1), (I 0), (.ref 20), (I 13), (I 0), (.ref 28), (I 22), (I 0), (.ref 56), (I 31), (I 0), (.ref 63), (I 40), (I 0), (.ref 91)]
noncomputable def o131:R:=fun _=>⟨(.type "type"), none, (.cls ⟨(.ofString "ToolError"), [(.type "Exception")], [(.ref 82), (.type "Exception"), (.type "BaseException"), (.type "object")], 81, (.ofString "ToolError"), true, [], [(.ref 95)], false, none, false⟩), #[(some (.ref 58)), none, (some (S "ToolError" 288)), (some (S "ToolError" 296)), (some (.builtin "Exception.__new__")), (some (.bool true))]⟩
def o132:R:=T #[(.ref 82)]
def o134:R:=fun P=>D #[s P "__module__" 333 "grammarmill.source" 194, s P "__qualname__" 335 "ActionError" 334, dE P "__firstlineno__" 337 (.int 40 336), e P "__static_attributes__" 338 93] 4
def o137:R:=C "ActionError" 328 "ActionError" 329 330 40 0 0 0 0 89 false 90 .none .none .none 331 332
noncomputable def o138:R:=fun _=>⟨(.type "frame"), none, .plain, #[(some (.ref 91)), (some (.ref 3)), (some (.ref 88)), none, (some (S "grammarmill.source" 194)), none, (some (.ref 0))]⟩
def o140:R:=fun P=>D #[s P "__module__" 333 "grammarmill.source" 194, dE P "__firstlineno__" 337 (.int 40 336), e P "__static_attributes__" 338 93, dE P "__doc__" 339 .none] 2
noncomputable def o141:R:=fun _=>⟨(.type "type"), none, (.cls ⟨(.ofString "ActionError"), [(.ref 82)], [(.ref 95), (.ref 82), (.type "Exception"), (.type "BaseException"), (.type "object")], 94, (.ofString "ActionError"), true, [], [], false, none, false⟩), #[(some (.ref 86)), none, (some (S "ActionError" 326)), (some (S "ActionError" 334)), (some (.builtin "Exception.__new__")), (some (.bool true))]⟩
noncomputable def o142:R:=fun _=>⟨(.type "super"), none, (.fields #[(.ref 95), (.ref 95), (.ref 95)]), #[]⟩
noncomputable def o143:R:=fun _=>⟨(.type "builtin_function_or_method"), none, (.fields #[(.builtin "object.__init_subclass__"), (.ref 95)]), #[]⟩
def o144:R:=fun P=>D #[s P "__name__" 165 "grammarmill.source" 194, dE P "__doc__" 166 .none, dE P "__package__" 167 .none, dE P "__loader__" 168 (.builtin "__main__.__loader__#opaque"), dE P "__spec__" 169 .none, e P "__annotations__" 170 6, e P "__builtins__" 171 4, s P "__file__" 173 "/claim/cut.py" 172, dE P "__cached__" 174 .none, e P "_wall" 193 21, s P "SMALL" 197 "abcdefghijklmnopqrstuvwxyz" 196, s P "LETTERS" 200 "abcdefghijklmnopqrstuvwxyzABCDEFGHIJKLMNOPQRSTUVWXYZ" 199, s P "FIGURES" 202 "0123456789" 201, s P "NAME_SIGNS" 206 "abcdefghijklmnopqrstuvwxyzABCDEFGHIJKLMNOPQRSTUVWXYZ_0123456789" 205, s P "HEX_SIGNS" 209 "0123456789abcdefABCDEF" 208, s P "OCTAL_SIGNS" 211 "01234567" 210, dE P "MOST_FIGURES_source" 213 (.int 4000 212), e P "PLAIN_ESCAPES" 235 22, e P "Position" 275 46, e P "position_of" 287 57, e P "ToolError" 325 82, e P "ActionError" 341 95, e P "MachineError" 357 107] 23
def o145:R:=B #[(I 1), (I 0), (.ref 20), (I 13), (I 0), (.ref 28), (I 22), (I 0), (.ref 56), (I 31), (I 0), (.ref 63), (I 40), (I 0), (.ref 91), (I 42), (I 0), (.ref 103)]
noncomputable def o146:R:=fun _=>⟨(.type "type"), none, (.cls ⟨(.ofString "ToolError"), [(.type "Exception")], [(.ref 82), (.type "Exception"), (.type "BaseException"), (.type "object")], 81, (.ofString "ToolError"), true, [], [(.ref 95), (.ref 107)], false, none, false⟩), #[(some (.ref 58)), none, (some (S "ToolError" 288)), (some (S "ToolError" 296)), (some (.builtin "Exception.__new__")), (some (.bool true))]⟩
def o149:R:=fun P=>D #[s P "__module__" 349 "grammarmill.source" 194, s P "__qualname__" 351 "MachineError" 350, dE P "__firstlineno__" 353 (.int 42 352), e P "__static_attributes__" 354 105] 4
def o152:R:=C "MachineError" 344 "MachineError" 345 346 42 0 0 0 0 101 false 102 .none .none .none 347 348
noncomputable def o153:R:=fun _=>⟨(.type "frame"), none, .plain, #[(some (.ref 103)), (some (.ref 3)), (some (.ref 100)), none, (some (S "grammarmill.source" 194)), none, (some (.ref 0))]⟩
def o155:R:=fun P=>D #[s P "__module__" 349 "grammarmill.source" 194, dE P "__firstlineno__" 353 (.int 42 352), e P "__static_attributes__" 354 105, dE P "__doc__" 355 .none] 2
noncomputable def o156:R:=fun _=>⟨(.type "type"), none, (.cls ⟨(.ofString "MachineError"), [(.ref 82)], [(.ref 107), (.ref 82), (.type "Exception"), (.type "BaseException"), (.type "object")], 106, (.ofString "MachineError"), true, [], [], false, none, false⟩), #[(some (.ref 98)), none, (some (S "MachineError" 342)), (some (S "MachineError" 350)), (some (.builtin "Exception.__new__")), (some (.bool true))]⟩
noncomputable def o157:R:=fun _=>⟨(.type "super"), none, (.fields #[(.ref 107), (.ref 107), (.ref 107)]), #[]⟩
noncomputable def o158:R:=fun _=>⟨(.type "builtin_function_or_method"), none, (.fields #[(.builtin "object.__init_subclass__"), (.ref 107)]), #[]⟩
def o159:R:=fun P=>D #[s P "__name__" 165 "grammarmill.source" 194, dE P "__doc__" 166 .none, dE P "__package__" 167 .none, dE P "__loader__" 168 (.builtin "__main__.__loader__#opaque"), dE P "__spec__" 169 .none, e P "__annotations__" 170 6, e P "__builtins__" 171 4, s P "__file__" 173 "/claim/cut.py" 172, dE P "__cached__" 174 .none, e P "_wall" 193 21, s P "SMALL" 197 "abcdefghijklmnopqrstuvwxyz" 196, s P "LETTERS" 200 "abcdefghijklmnopqrstuvwxyzABCDEFGHIJKLMNOPQRSTUVWXYZ" 199, s P "FIGURES" 202 "0123456789" 201, s P "NAME_SIGNS" 206 "abcdefghijklmnopqrstuvwxyzABCDEFGHIJKLMNOPQRSTUVWXYZ_0123456789" 205, s P "HEX_SIGNS" 209 "0123456789abcdefABCDEF" 208, s P "OCTAL_SIGNS" 211 "01234567" 210, dE P "MOST_FIGURES_source" 213 (.int 4000 212), e P "PLAIN_ESCAPES" 235 22, e P "Position" 275 46, e P "position_of" 287 57, e P "ToolError" 325 82, e P "ActionError" 341 95, e P "MachineError" 357 107, e P "Cursor" 517 234] 24
def o160:R:=B #[(I 1), (I 0), (.ref 20), (I 13), (I 0), (.ref 28), (I 22), (I 0), (.ref 56), (I 31), (I 0), (.ref 63), (I 40), (I 0), (.ref 91), (I 42), (I 0), (.ref 103), (I 44), (I 0), (.ref 115)]
def o163:R:=fun P=>D #[s P "__module__" 365 "grammarmill.source" 194, s P "__qualname__" 367 "Cursor" 366, dE P "__firstlineno__" 369 (.int 44 368), e P "__init__" 379 124, e P "is_done" 386 131, e P "peek" 396 139, e P "starts" 404 146, e P "take" 412 153, e P "skip" 420 160, e P "take_while" 429 167, e P "take_line" 436 174, e P "skip_blanks" 445 182, e P "name" 453 189, e P "number" 462 196, e P "position" 469 203, e P "position_at" 477 210, e P "coded" 489 217, e P "escape" 497 224, e P "quoted" 507 231, e P "__static_attributes__" 510 232] 20
def o165:R:=B #[(I 46), (I 4), (.ref 123), (I 50), (I 4), (.ref 130), (I 53), (I 4), (.ref 138), (I 59), (I 4), (.ref 145), (I 62), (I 4), (.ref 152), (I 69), (I 4), (.ref 159), (I 75), (I 4), (.ref 166), (I 81), (I 4), (.ref 173), (I 84), (I 4), (.ref 181), (I 87), (I 4), (.ref 188), (I 93), (I 4), (.ref 195), (I 101), (I 4), (.ref 202), (I 104), (I 4), (.ref 209), (I 107), (I 4), (.ref 216), (I 115), (I 4), (.ref 223), (I 129), (I 4), (.ref 230)]
def o166:R:=C "Cursor" 360 "Cursor" 361 362 44 0 0 0 0 113 false 114 .none .none .none 363 364
noncomputable def o167:R:=fun _=>⟨(.type "frame"), none, .plain, #[(some (.ref 115)), (some (.ref 3)), (some (.ref 112)), none, (some (S "grammarmill.source" 194)), none, (some (.ref 0))]⟩
def o168:R:=T #[(.int 0 370)]
def o171:R:=T #[(S "self" 374), (S "text" 375), (S "at" 376)]
def o173:R:=G "__init__" "Cursor.__init__" a_15_0 b_15_0 s_15_0
def o174:R:=C "__init__" 371 "Cursor.__init__" 372 373 46 3 0 0 3 118 true 119 (.ref 120) (.ref 121) (.ref 122) 377 378
def o175:R:=F "__init__" "Cursor.__init__" a_15_0 b_15_0 s_15_0 (.ref 117) "grammarmill.source" 194 123
def o178:R:=T #[(S "self" 383)]
def o180:R:=G "is_done" "Cursor.is_done" a_15_1 b_15_1 s_15_1
def o181:R:=C "is_done" 380 "Cursor.is_done" 381 382 50 1 0 0 3 125 true 126 (.ref 127) (.ref 128) (.ref 129) 384 385
def o182:R:=F "is_done" "Cursor.is_done" a_15_1 b_15_1 s_15_1 .none "grammarmill.source" 194 130
def o183:R:=T #[(.int 0 387)]
def o186:R:=T #[(S "self" 391), (S "ahead" 392), (S "at" 393)]
def o188:R:=G "peek" "Cursor.peek" a_15_2 b_15_2 s_15_2
def o189:R:=C "peek" 388 "Cursor.peek" 389 390 53 2 0 0 3 133 true 134 (.ref 135) (.ref 136) (.ref 137) 394 395
def o190:R:=F "peek" "Cursor.peek" a_15_2 b_15_2 s_15_2 (.ref 132) "grammarmill.source" 194 138
def o193:R:=T #[(S "self" 400), (S "word" 401)]
def o195:R:=G "starts" "Cursor.starts" a_15_3 b_15_3 s_15_3
def o196:R:=C "starts" 397 "Cursor.starts" 398 399 59 2 0 0 3 140 true 141 (.ref 142) (.ref 143) (.ref 144) 402 403
def o197:R:=F "starts" "Cursor.starts" a_15_3 b_15_3 s_15_3 .none "grammarmill.source" 194 145
def o200:R:=T #[(S "self" 408), (S "sign" 409)]
def o202:R:=G "take" "Cursor.take" a_15_4 b_15_4 s_15_4
def o203:R:=C "take" 405 "Cursor.take" 406 407 62 1 0 0 3 147 true 148 (.ref 149) (.ref 150) (.ref 151) 410 411
def o204:R:=F "take" "Cursor.take" a_15_4 b_15_4 s_15_4 .none "grammarmill.source" 194 152
def o207:R:=T #[(S "self" 416), (S "word" 417)]
def o209:R:=G "skip" "Cursor.skip" a_15_5 b_15_5 s_15_5
def o210:R:=C "skip" 413 "Cursor.skip" 414 415 69 2 0 0 3 154 true 155 (.ref 156) (.ref 157) (.ref 158) 418 419
def o211:R:=F "skip" "Cursor.skip" a_15_5 b_15_5 s_15_5 .none "grammarmill.source" 194 159
def o214:R:=T #[(S "self" 424), (S "signs" 425), (S "begun" 426)]
def o216:R:=G "take_while" "Cursor.take_while" a_15_6 b_15_6 s_15_6
def o217:R:=C "take_while" 421 "Cursor.take_while" 422 423 75 2 0 0 3 161 true 162 (.ref 163) (.ref 164) (.ref 165) 427 428
def o218:R:=F "take_while" "Cursor.take_while" a_15_6 b_15_6 s_15_6 .none "grammarmill.source" 194 166
def o221:R:=T #[(S "self" 433)]
def o223:R:=G "take_line" "Cursor.take_line" a_15_7 b_15_7 s_15_7
def o224:R:=C "take_line" 430 "Cursor.take_line" 431 432 81 1 0 0 3 168 true 169 (.ref 170) (.ref 171) (.ref 172) 434 435
def o225:R:=F "take_line" "Cursor.take_line" a_15_7 b_15_7 s_15_7 .none "grammarmill.source" 194 173
def o226:R:=T #[(S " \t" 437)]
def o229:R:=T #[(S "self" 441), (S "signs" 442)]
def o231:R:=G "skip_blanks" "Cursor.skip_blanks" a_15_8 b_15_8 s_15_8
def o232:R:=C "skip_blanks" 438 "Cursor.skip_blanks" 439 440 84 2 0 0 3 176 true 177 (.ref 178) (.ref 179) (.ref 180) 443 444
def o233:R:=F "skip_blanks" "Cursor.skip_blanks" a_15_8 b_15_8 s_15_8 (.ref 175) "grammarmill.source" 194 181
def o236:R:=T #[(S "self" 449), (S "here" 450)]
def o238:R:=G "name" "Cursor.name" a_15_9 b_15_9 s_15_9
def o239:R:=C "name" 446 "Cursor.name" 447 448 87 1 0 0 3 183 true 184 (.ref 185) (.ref 186) (.ref 187) 451 452
def o240:R:=F "name" "Cursor.name" a_15_9 b_15_9 s_15_9 .none "grammarmill.source" 194 188
def o243:R:=T #[(S "self" 457), (S "begun" 458), (S "figures" 459)]
def o245:R:=G "number" "Cursor.number" a_15_10 b_15_10 s_15_10
def o246:R:=C "number" 454 "Cursor.number" 455 456 93 1 0 0 3 190 true 191 (.ref 192) (.ref 193) (.ref 194) 460 461
def o247:R:=F "number" "Cursor.number" a_15_10 b_15_10 s_15_10 .none "grammarmill.source" 194 195
def o250:R:=T #[(S "self" 466)]
def o252:R:=G "position" "Cursor.position" a_15_11 b_15_11 s_15_11
def o253:R:=C "position" 463 "Cursor.position" 464 465 101 1 0 0 3 197 true 198 (.ref 199) (.ref 200) (.ref 201) 467 468
def o254:R:=F "position" "Cursor.position" a_15_11 b_15_11 s_15_11 .none "grammarmill.source" 194 202
def o257:R:=T #[(S "self" 473), (S "offset" 474)]
def o259:R:=G "position_at" "Cursor.position_at" a_15_12 b_15_12 s_15_12
def o260:R:=C "position_at" 470 "Cursor.position_at" 471 472 104 2 0 0 3 204 true 205 (.ref 206) (.ref 207) (.ref 208) 475 476
def o261:R:=F "position_at" "Cursor.position_at" a_15_12 b_15_12 s_15_12 .none "grammarmill.source" 194 209
def o264:R:=T #[(S "self" 481), (S "signs" 482), (S "most" 483), (S "base" 484), (S "code" 485), (S "taken" 486)]
def o266:R:=G "coded" "Cursor.coded" a_15_13 b_15_13 s_15_13
def o267:R:=C "coded" 478 "Cursor.coded" 479 480 107 4 0 0 3 211 true 212 (.ref 213) (.ref 214) (.ref 215) 487 488
def o268:R:=F "coded" "Cursor.coded" a_15_13 b_15_13 s_15_13 .none "grammarmill.source" 194 216
def o271:R:=T #[(S "self" 493), (S "sign" 494)]
def o273:R:=G "escape" "Cursor.escape" a_15_14 b_15_14 s_15_14
def o274:R:=C "escape" 490 "Cursor.escape" 491 492 115 1 0 0 3 218 true 219 (.ref 220) (.ref 221) (.ref 222) 495 496
def o275:R:=F "escape" "Cursor.escape" a_15_14 b_15_14 s_15_14 .none "grammarmill.source" 194 223
def o278:R:=T #[(S "self" 501), (S "end" 502), (S "signs" 503), (S "sign" 504)]
def o280:R:=G "quoted" "Cursor.quoted" a_15_15 b_15_15 s_15_15
def o281:R:=C "quoted" 498 "Cursor.quoted" 499 500 129 2 0 0 3 225 true 226 (.ref 227) (.ref 228) (.ref 229) 505 506
def o282:R:=F "quoted" "Cursor.quoted" a_15_15 b_15_15 s_15_15 .none "grammarmill.source" 194 230
def o283:R:=T #[(S "at" 508), (S "text" 509)]
def o284:R:=fun P=>D #[s P "__module__" 365 "grammarmill.source" 194, dE P "__firstlineno__" 369 (.int 44 368), e P "__init__" 379 124, e P "is_done" 386 131, e P "peek" 396 139, e P "starts" 404 146, e P "take" 412 153, e P "skip" 420 160, e P "take_while" 429 167, e P "take_line" 436 174, e P "skip_blanks" 445 182, e P "name" 453 189, e P "number" 462 196, e P "position" 469 203, e P "position_at" 477 210, e P "coded" 489 217, e P "escape" 497 224, e P "quoted" 507 231, e P "__static_attributes__" 510 232, e P "__dict__" 512 235, e P "__weakref__" 514 236, dE P "__doc__" 515 .none] 4
noncomputable def o285:R:=fun _=>⟨(.type "type"), none, (.cls ⟨(.ofString "Cursor"), [(.type "object")], [(.ref 234), (.type "object")], 233, (.ofString "Cursor"), true, [], [], false, none, false⟩), #[none, none, (some (S "Cursor" 358)), (some (S "Cursor" 366)), (some (.builtin "object.__new__")), (some (.bool true))]⟩
noncomputable def o286:R:=fun _=>⟨(.type "getset_descriptor"), none, (.fields #[(S "__dict__" 511), (.ref 234), (.builtin "function.__dict__"), (.builtin "function.__dict__#set")]), #[]⟩
noncomputable def o287:R:=fun _=>⟨(.type "getset_descriptor"), none, (.fields #[(S "__weakref__" 513), (.ref 234), (.builtin "ExceptionGroup.__weakref__"), .none]), #[]⟩
noncomputable def o288:R:=fun _=>⟨(.type "super"), none, (.fields #[(.ref 234), (.ref 234), (.ref 234)]), #[]⟩
noncomputable def o289:R:=fun _=>⟨(.type "builtin_function_or_method"), none, (.fields #[(.builtin "object.__init_subclass__"), (.ref 234)]), #[]⟩
def o293:R:=fun P=>D #[s P "__module__" 365 "grammarmill.source" 194, s P "__qualname__" 367 "Cursor" 366, dE P "__firstlineno__" 369 (.int 44 368), e P "__init__" 379 124, e P "is_done" 386 131, e P "peek" 396 139, e P "starts" 404 146, e P "take" 412 153, e P "skip" 420 160, e P "take_while" 429 167, e P "take_line" 436 174, e P "skip_blanks" 445 182, e P "name" 453 189] 13
def o295:R:=B #[(I 46), (I 4), (.ref 123), (I 50), (I 4), (.ref 130), (I 53), (I 4), (.ref 138), (I 59), (I 4), (.ref 145), (I 62), (I 4), (.ref 152), (I 69), (I 4), (.ref 159), (I 75), (I 4), (.ref 166), (I 81), (I 4), (.ref 173), (I 84), (I 4), (.ref 181), (I 87), (I 4), (.ref 188), (I 93), (I 4), (.ref 195)]
def o381:R:=fun P=>D #[s P "__name__" 165 "grammarmill.actions" 518, dE P "__doc__" 166 .none, dE P "__package__" 167 .none, dE P "__loader__" 168 (.builtin "__main__.__loader__#opaque"), dE P "__spec__" 169 .none, e P "__annotations__" 170 6, e P "__builtins__" 171 4, s P "__file__" 173 "/claim/cut.py" 172, dE P "__cached__" 174 .none, e P "_wall" 193 21, s P "SMALL" 197 "abcdefghijklmnopqrstuvwxyz" 196, s P "LETTERS" 200 "abcdefghijklmnopqrstuvwxyzABCDEFGHIJKLMNOPQRSTUVWXYZ" 199, s P "FIGURES" 202 "0123456789" 201, s P "NAME_SIGNS" 206 "abcdefghijklmnopqrstuvwxyzABCDEFGHIJKLMNOPQRSTUVWXYZ_0123456789" 205, s P "HEX_SIGNS" 209 "0123456789abcdefABCDEF" 208, s P "OCTAL_SIGNS" 211 "01234567" 210, dE P "MOST_FIGURES_source" 213 (.int 4000 212), e P "PLAIN_ESCAPES" 235 22, e P "Position" 275 46, e P "position_of" 287 57, e P "ToolError" 325 82, e P "ActionError" 341 95, e P "MachineError" 357 107, e P "Cursor" 517 234, e P "WORDS" 525 239, e P "RESERVED" 529 241, e P "LEVELS" 569 242, e P "SIGNS_OF_TWO" 576 243, s P "SIGNS_OF_ONE" 578 "+-*/%!<>=;,(){}[]" 577, s P "BLANKS" 580 " \t\n\x0d" 579] 30
def o382:R:=T #[(S "yyerrok" 520), (S "yyclearin" 521), (S "YYERROR" 522), (S "YYABORT" 523), (S "YYACCEPT" 524)]
def o383:R:=T #[(S "if" 526), (S "else" 527), (S "while" 528)]
def o384:R:=T #[(S "if" 526), (S "else" 527), (S "while" 528), (S "yyerrok" 520), (S "yyclearin" 521), (S "YYERROR" 522), (S "YYABORT" 523), (S "YYACCEPT" 524)]
def o385:R:=fun P=>D #[dE P "||" 530 (.int 1 531), dE P "&&" 532 (.int 2 533), dE P "==" 534 (.int 3 535), dE P "!=" 536 (.int 3 537), dE P "<" 538 (.int 3 539), dE P "<=" 540 (.int 3 541), dE P ">" 542 (.int 3 543), dE P ">=" 544 (.int 3 545), dE P "+" 546 (.int 4 547), dE P "-" 548 (.int 4 549), dE P "*" 550 (.int 5 551), dE P "/" 552 (.int 5 553), dE P "%" 554 (.int 5 555)] 13
def o386:R:=T #[(S "||" 570), (S "&&" 571), (S "==" 572), (S "!=" 573), (S "<=" 574), (S ">=" 575)]
def o389:R:=fun P=>D #[s P "__name__" 165 "grammarmill.actions" 518, dE P "__doc__" 166 .none, dE P "__package__" 167 .none, dE P "__loader__" 168 (.builtin "__main__.__loader__#opaque"), dE P "__spec__" 169 .none, e P "__annotations__" 170 6, e P "__builtins__" 171 4, s P "__file__" 173 "/claim/cut.py" 172, dE P "__cached__" 174 .none, e P "_wall" 193 21, s P "SMALL" 197 "abcdefghijklmnopqrstuvwxyz" 196, s P "LETTERS" 200 "abcdefghijklmnopqrstuvwxyzABCDEFGHIJKLMNOPQRSTUVWXYZ" 199, s P "FIGURES" 202 "0123456789" 201, s P "NAME_SIGNS" 206 "abcdefghijklmnopqrstuvwxyzABCDEFGHIJKLMNOPQRSTUVWXYZ_0123456789" 205, s P "HEX_SIGNS" 209 "0123456789abcdefABCDEF" 208, s P "OCTAL_SIGNS" 211 "01234567" 210, dE P "MOST_FIGURES_source" 213 (.int 4000 212), e P "PLAIN_ESCAPES" 235 22, e P "Position" 275 46, e P "position_of" 287 57, e P "ToolError" 325 82, e P "ActionError" 341 95, e P "MachineError" 357 107, e P "Cursor" 517 234, e P "WORDS" 525 239, e P "RESERVED" 529 241, e P "LEVELS" 569 242, e P "SIGNS_OF_TWO" 576 243, s P "SIGNS_OF_ONE" 578 "+-*/%!<>=;,(){}[]" 577, s P "BLANKS" 580 " \t\n\x0d" 579, e P "FUNCTIONS" 614 244, dE P "MOST_BITS" 616 (.int 512 615), dE P "MOST_SIZE" 618 (.int 2000 617), dE P "MOST_DEEP" 620 (.int 100 619)] 34
def o390:R:=fun P=>D #[dE P "len" 581 (.int 1 582), dE P "item" 583 (.int 2 584), dE P "push" 585 (.int 2 586), dE P "head" 587 (.int 1 588), dE P "rest" 589 (.int 1 590), dE P "last" 591 (.int 1 592), dE P "back" 593 (.int 1 594), dE P "text" 595 (.int 1 596), dE P "number" 597 (.int 1 598), dE P "cut" 599 (.int 3 600), dE P "glue" 601 (.int 2 602)] 11
def o393:R:=fun P=>D #[s P "__name__" 165 "grammarmill.actions" 518, dE P "__doc__" 166 .none, dE P "__package__" 167 .none, dE P "__loader__" 168 (.builtin "__main__.__loader__#opaque"), dE P "__spec__" 169 .none, e P "__annotations__" 170 6, e P "__builtins__" 171 4, s P "__file__" 173 "/claim/cut.py" 172, dE P "__cached__" 174 .none, e P "_wall" 193 21, s P "SMALL" 197 "abcdefghijklmnopqrstuvwxyz" 196, s P "LETTERS" 200 "abcdefghijklmnopqrstuvwxyzABCDEFGHIJKLMNOPQRSTUVWXYZ" 199, s P "FIGURES" 202 "0123456789" 201, s P "NAME_SIGNS" 206 "abcdefghijklmnopqrstuvwxyzABCDEFGHIJKLMNOPQRSTUVWXYZ_0123456789" 205, s P "HEX_SIGNS" 209 "0123456789abcdefABCDEF" 208, s P "OCTAL_SIGNS" 211 "01234567" 210, dE P "MOST_FIGURES_source" 213 (.int 4000 212), e P "PLAIN_ESCAPES" 235 22, e P "Position" 275 46, e P "position_of" 287 57, e P "ToolError" 325 82, e P "ActionError" 341 95, e P "MachineError" 357 107, e P "Cursor" 517 234, e P "WORDS" 525 239, e P "RESERVED" 529 241, e P "LEVELS" 569 242, e P "SIGNS_OF_TWO" 576 243, s P "SIGNS_OF_ONE" 578 "+-*/%!<>=;,(){}[]" 577, s P "BLANKS" 580 " \t\n\x0d" 579, e P "FUNCTIONS" 614 244, dE P "MOST_BITS" 616 (.int 512 615), dE P "MOST_SIZE" 618 (.int 2000 617), dE P "MOST_DEEP" 620 (.int 100 619), e P "Part" 653 261, e P "refused" 662 272, e P "scan_dollar" 672 279, e P "scan_sign" 683 286, e P "scan_action" 696 293] 39
def o394:R:=B #[(I 1), (I 0), (.ref 20), (I 13), (I 0), (.ref 28), (I 22), (I 0), (.ref 56), (I 31), (I 0), (.ref 63), (I 40), (I 0), (.ref 91), (I 42), (I 0), (.ref 103), (I 44), (I 0), (.ref 115), (I 152), (I 0), (.ref 250), (I 158), (I 0), (.ref 271), (I 160), (I 0), (.ref 278), (I 167), (I 0), (.ref 285), (I 176), (I 0), (.ref 292)]
def o397:R:=fun P=>D #[s P "__module__" 628 "grammarmill.actions" 518, s P "__qualname__" 630 "Part" 629, dE P "__firstlineno__" 632 (.int 152 631), e P "__init__" 642 258, e P "__static_attributes__" 646 259] 5
def o399:R:=B #[(I 154), (I 4), (.ref 257)]
def o400:R:=C "Part" 623 "Part" 624 625 152 0 0 0 0 248 false 249 .none .none .none 626 627
noncomputable def o401:R:=fun _=>⟨(.type "frame"), none, .plain, #[(some (.ref 250)), (some (.ref 3)), (some (.ref 247)), none, (some (S "grammarmill.actions" 518)), none, (some (.ref 0))]⟩
def o404:R:=T #[(S "self" 636), (S "kind" 637), (S "worth" 638), (S "offset" 639)]
def o406:R:=G "__init__" "Part.__init__" a_27_0 b_27_0 s_27_0
def o407:R:=C "__init__" 633 "Part.__init__" 634 635 154 4 0 0 3 252 true 253 (.ref 254) (.ref 255) (.ref 256) 640 641
def o408:R:=F "__init__" "Part.__init__" a_27_0 b_27_0 s_27_0 .none "grammarmill.actions" 518 257
def o409:R:=T #[(S "kind" 643), (S "offset" 644), (S "worth" 645)]
def o410:R:=fun P=>D #[s P "__module__" 628 "grammarmill.actions" 518, dE P "__firstlineno__" 632 (.int 152 631), e P "__init__" 642 258, e P "__static_attributes__" 646 259, e P "__dict__" 648 262, e P "__weakref__" 650 263, dE P "__doc__" 651 .none] 4
noncomputable def o411:R:=fun _=>⟨(.type "type"), none, (.cls ⟨(.ofString "Part"), [(.type "object")], [(.ref 261), (.type "object")], 260, (.ofString "Part"), true, [], [], false, none, false⟩), #[none, none, (some (S "Part" 621)), (some (S "Part" 629)), (some (.builtin "object.__new__")), (some (.bool true))]⟩
noncomputable def o412:R:=fun _=>⟨(.type "getset_descriptor"), none, (.fields #[(S "__dict__" 647), (.ref 261), (.builtin "function.__dict__"), (.builtin "function.__dict__#set")]), #[]⟩
noncomputable def o413:R:=fun _=>⟨(.type "getset_descriptor"), none, (.fields #[(S "__weakref__" 649), (.ref 261), (.builtin "ExceptionGroup.__weakref__"), .none]), #[]⟩
noncomputable def o414:R:=fun _=>⟨(.type "super"), none, (.fields #[(.ref 261), (.ref 261), (.ref 261)]), #[]⟩
noncomputable def o415:R:=fun _=>⟨(.type "builtin_function_or_method"), none, (.fields #[(.builtin "object.__init_subclass__"), (.ref 261)]), #[]⟩
def o418:R:=T #[(S "what" 657), (S "text" 658), (S "offset" 659)]
def o420:R:=G "refused" "refused" a_28 b_28 s_28
def o421:R:=C "refused" 654 "refused" 655 656 158 3 0 0 3 266 true 267 (.ref 268) (.ref 269) (.ref 270) 660 661
def o422:R:=F "refused" "refused" a_28 b_28 s_28 .none "grammarmill.actions" 518 271
def o425:R:=T #[(S "text" 666), (S "cursor" 667), (S "start" 668), (S "number" 669)]
def o427:R:=G "scan_dollar" "scan_dollar" a_29 b_29 s_29
def o428:R:=C "scan_dollar" 663 "scan_dollar" 664 665 160 3 0 0 3 273 true 274 (.ref 275) (.ref 276) (.ref 277) 670 671
def o429:R:=F "scan_dollar" "scan_dollar" a_29 b_29 s_29 .none "grammarmill.actions" 518 278
def o432:R:=T #[(S "text" 676), (S "cursor" 677), (S "start" 678), (S "word" 679), (S "sign" 680)]
def o434:R:=G "scan_sign" "scan_sign" a_30 b_30 s_30
def o435:R:=C "scan_sign" 673 "scan_sign" 674 675 167 3 0 0 3 280 true 281 (.ref 282) (.ref 283) (.ref 284) 681 682
def o436:R:=F "scan_sign" "scan_sign" a_30 b_30 s_30 .none "grammarmill.actions" 518 285
def o439:R:=T #[(S "text" 687), (S "cursor" 688), (S "parts" 689), (S "start" 690), (S "name" 691), (S "number" 692), (S "found" 693)]
def o441:R:=G "scan_action" "scan_action" a_31 b_31 s_31
def o442:R:=C "scan_action" 684 "scan_action" 685 686 176 1 0 0 3 287 true 288 (.ref 289) (.ref 290) (.ref 291) 694 695
def o443:R:=F "scan_action" "scan_action" a_31 b_31 s_31 .none "grammarmill.actions" 518 292
def o444:R:=fun P=>D #[s P "__name__" 165 "grammarmill.actions" 518, dE P "__doc__" 166 .none, dE P "__package__" 167 .none, dE P "__loader__" 168 (.builtin "__main__.__loader__#opaque"), dE P "__spec__" 169 .none, e P "__annotations__" 170 6, e P "__builtins__" 171 4, s P "__file__" 173 "/claim/cut.py" 172, dE P "__cached__" 174 .none, e P "_wall" 193 21, s P "SMALL" 197 "abcdefghijklmnopqrstuvwxyz" 196, s P "LETTERS" 200 "abcdefghijklmnopqrstuvwxyzABCDEFGHIJKLMNOPQRSTUVWXYZ" 199, s P "FIGURES" 202 "0123456789" 201, s P "NAME_SIGNS" 206 "abcdefghijklmnopqrstuvwxyzABCDEFGHIJKLMNOPQRSTUVWXYZ_0123456789" 205, s P "HEX_SIGNS" 209 "0123456789abcdefABCDEF" 208, s P "OCTAL_SIGNS" 211 "01234567" 210, dE P "MOST_FIGURES_source" 213 (.int 4000 212), e P "PLAIN_ESCAPES" 235 22, e P "Position" 275 46, e P "position_of" 287 57, e P "ToolError" 325 82, e P "ActionError" 341 95, e P "MachineError" 357 107, e P "Cursor" 517 234, e P "WORDS" 525 239, e P "RESERVED" 529 241, e P "LEVELS" 569 242, e P "SIGNS_OF_TWO" 576 243, s P "SIGNS_OF_ONE" 578 "+-*/%!<>=;,(){}[]" 577, s P "BLANKS" 580 " \t\n\x0d" 579, e P "FUNCTIONS" 614 244, dE P "MOST_BITS" 616 (.int 512 615), dE P "MOST_SIZE" 618 (.int 2000 617), dE P "MOST_DEEP" 620 (.int 100 619), e P "Part" 653 261, e P "refused" 662 272, e P "scan_dollar" 672 279, e P "scan_sign" 683 286, e P "scan_action" 696 293, e P "ActionReader" 894 444] 40
def o445:R:=B #[(I 1), (I 0), (.ref 20), (I 13), (I 0), (.ref 28), (I 22), (I 0), (.ref 56), (I 31), (I 0), (.ref 63), (I 40), (I 0), (.ref 91), (I 42), (I 0), (.ref 103), (I 44), (I 0), (.ref 115), (I 152), (I 0), (.ref 250), (I 158), (I 0), (.ref 271), (I 160), (I 0), (.ref 278), (I 167), (I 0), (.ref 285), (I 176), (I 0), (.ref 292), (I 203), (I 0), (.ref 299)]
def o448:R:=fun P=>D #[s P "__module__" 704 "grammarmill.actions" 518, s P "__qualname__" 706 "ActionReader" 705, dE P "__firstlineno__" 708 (.int 203 707), e P "__init__" 716 307, e P "enter" 723 314, e P "leave" 731 321, e P "here" 738 328, e P "refuse" 746 335, e P "is_sign" 757 343, e P "skip" 765 350, e P "need" 773 357, e P "take" 781 364, e P "whole" 789 371, e P "is_closed" 796 378, e P "statements" 804 385, e P "block" 812 392, e P "condition" 820 399, e P "choice" 830 406, e P "statement" 839 413, e P "expression" 853 420, e P "unary" 862 427, e P "atom" 871 434, e P "items" 881 441, e P "__static_attributes__" 887 442] 24
def o450:R:=B #[(I 205), (I 4), (.ref 306), (I 212), (I 4), (.ref 313), (I 217), (I 4), (.ref 320), (I 221), (I 4), (.ref 327), (I 224), (I 4), (.ref 334), (I 227), (I 4), (.ref 342), (I 231), (I 4), (.ref 349), (I 237), (I 4), (.ref 356), (I 241), (I 4), (.ref 363), (I 246), (I 4), (.ref 370), (I 252), (I 4), (.ref 377), (I 255), (I 4), (.ref 384), (I 263), (I 4), (.ref 391), (I 271), (I 4), (.ref 398), (I 277), (I 4), (.ref 405), (I 284), (I 4), (.ref 412), (I 306), (I 4), (.ref 419), (I 325), (I 4), (.ref 426), (I 334), (I 4), (.ref 433), (I 356), (I 4), (.ref 440)]
def o451:R:=C "ActionReader" 699 "ActionReader" 700 701 203 0 0 0 0 297 false 298 .none .none .none 702 703
noncomputable def o452:R:=fun _=>⟨(.type "frame"), none, .plain, #[(some (.ref 299)), (some (.ref 3)), (some (.ref 296)), none, (some (S "grammarmill.actions" 518)), none, (some (.ref 0))]⟩
def o455:R:=T #[(S "self" 712), (S "text" 713)]
def o457:R:=G "__init__" "ActionReader.__init__" a_32_0 b_32_0 s_32_0
def o458:R:=C "__init__" 709 "ActionReader.__init__" 710 711 205 2 0 0 3 301 true 302 (.ref 303) (.ref 304) (.ref 305) 714 715
def o459:R:=F "__init__" "ActionReader.__init__" a_32_0 b_32_0 s_32_0 .none "grammarmill.actions" 518 306
def o462:R:=T #[(S "self" 720)]
def o464:R:=G "enter" "ActionReader.enter" a_32_1 b_32_1 s_32_1
def o465:R:=C "enter" 717 "ActionReader.enter" 718 719 212 1 0 0 3 308 true 309 (.ref 310) (.ref 311) (.ref 312) 721 722
def o466:R:=F "enter" "ActionReader.enter" a_32_1 b_32_1 s_32_1 .none "grammarmill.actions" 518 313
def o469:R:=T #[(S "self" 727), (S "below" 728)]
def o471:R:=G "leave" "ActionReader.leave" a_32_2 b_32_2 s_32_2
def o472:R:=C "leave" 724 "ActionReader.leave" 725 726 217 2 0 0 3 315 true 316 (.ref 317) (.ref 318) (.ref 319) 729 730
def o473:R:=F "leave" "ActionReader.leave" a_32_2 b_32_2 s_32_2 .none "grammarmill.actions" 518 320
def o476:R:=T #[(S "self" 735)]
def o478:R:=G "here" "ActionReader.here" a_32_3 b_32_3 s_32_3
def o479:R:=C "here" 732 "ActionReader.here" 733 734 221 1 0 0 3 322 true 323 (.ref 324) (.ref 325) (.ref 326) 736 737
def o480:R:=F "here" "ActionReader.here" a_32_3 b_32_3 s_32_3 .none "grammarmill.actions" 518 327
def o483:R:=T #[(S "self" 742), (S "what" 743)]
def o485:R:=G "refuse" "ActionReader.refuse" a_32_4 b_32_4 s_32_4
def o486:R:=C "refuse" 739 "ActionReader.refuse" 740 741 224 2 0 0 3 329 true 330 (.ref 331) (.ref 332) (.ref 333) 744 745
def o487:R:=F "refuse" "ActionReader.refuse" a_32_4 b_32_4 s_32_4 .none "grammarmill.actions" 518 334
def o488:R:=T #[(.int 0 747)]
def o491:R:=T #[(S "self" 751), (S "sign" 752), (S "ahead" 753), (S "at" 754)]
def o493:R:=G "is_sign" "ActionReader.is_sign" a_32_5 b_32_5 s_32_5
def o494:R:=C "is_sign" 748 "ActionReader.is_sign" 749 750 227 3 0 0 3 337 true 338 (.ref 339) (.ref 340) (.ref 341) 755 756
def o495:R:=F "is_sign" "ActionReader.is_sign" a_32_5 b_32_5 s_32_5 (.ref 336) "grammarmill.actions" 518 342
def o498:R:=T #[(S "self" 761), (S "sign" 762)]
def o500:R:=G "skip" "ActionReader.skip" a_32_6 b_32_6 s_32_6
def o501:R:=C "skip" 758 "ActionReader.skip" 759 760 231 2 0 0 3 344 true 345 (.ref 346) (.ref 347) (.ref 348) 763 764
def o502:R:=F "skip" "ActionReader.skip" a_32_6 b_32_6 s_32_6 .none "grammarmill.actions" 518 349
def o505:R:=T #[(S "self" 769), (S "sign" 770)]
def o507:R:=G "need" "ActionReader.need" a_32_7 b_32_7 s_32_7
def o508:R:=C "need" 766 "ActionReader.need" 767 768 237 2 0 0 3 351 true 352 (.ref 353) (.ref 354) (.ref 355) 771 772
def o509:R:=F "need" "ActionReader.need" a_32_7 b_32_7 s_32_7 .none "grammarmill.actions" 518 356
def o512:R:=T #[(S "self" 777), (S "part" 778)]
def o514:R:=G "take" "ActionReader.take" a_32_8 b_32_8 s_32_8
def o515:R:=C "take" 774 "ActionReader.take" 775 776 241 1 0 0 3 358 true 359 (.ref 360) (.ref 361) (.ref 362) 779 780
def o516:R:=F "take" "ActionReader.take" a_32_8 b_32_8 s_32_8 .none "grammarmill.actions" 518 363
def o519:R:=T #[(S "self" 785), (S "found" 786)]
def o521:R:=G "whole" "ActionReader.whole" a_32_9 b_32_9 s_32_9
def o522:R:=C "whole" 782 "ActionReader.whole" 783 784 246 1 0 0 3 365 true 366 (.ref 367) (.ref 368) (.ref 369) 787 788
def o523:R:=F "whole" "ActionReader.whole" a_32_9 b_32_9 s_32_9 .none "grammarmill.actions" 518 370
def o526:R:=T #[(S "self" 793)]
def o528:R:=G "is_closed" "ActionReader.is_closed" a_32_10 b_32_10 s_32_10
def o529:R:=C "is_closed" 790 "ActionReader.is_closed" 791 792 252 1 0 0 3 372 true 373 (.ref 374) (.ref 375) (.ref 376) 794 795
def o530:R:=F "is_closed" "ActionReader.is_closed" a_32_10 b_32_10 s_32_10 .none "grammarmill.actions" 518 377
def o533:R:=T #[(S "self" 800), (S "found" 801)]
def o535:R:=G "statements" "ActionReader.statements" a_32_11 b_32_11 s_32_11
def o536:R:=C "statements" 797 "ActionReader.statements" 798 799 255 1 0 0 3 379 true 380 (.ref 381) (.ref 382) (.ref 383) 802 803
def o537:R:=F "statements" "ActionReader.statements" a_32_11 b_32_11 s_32_11 .none "grammarmill.actions" 518 384
def o540:R:=T #[(S "self" 808), (S "found" 809)]
def o542:R:=G "block" "ActionReader.block" a_32_12 b_32_12 s_32_12
def o543:R:=C "block" 805 "ActionReader.block" 806 807 263 1 0 0 3 386 true 387 (.ref 388) (.ref 389) (.ref 390) 810 811
def o544:R:=F "block" "ActionReader.block" a_32_12 b_32_12 s_32_12 .none "grammarmill.actions" 518 391
def o547:R:=T #[(S "self" 816), (S "found" 817)]
def o549:R:=G "condition" "ActionReader.condition" a_32_13 b_32_13 s_32_13
def o550:R:=C "condition" 813 "ActionReader.condition" 814 815 271 1 0 0 3 393 true 394 (.ref 395) (.ref 396) (.ref 397) 818 819
def o551:R:=F "condition" "ActionReader.condition" a_32_13 b_32_13 s_32_13 .none "grammarmill.actions" 518 398
def o554:R:=T #[(S "self" 824), (S "test" 825), (S "yes" 826), (S "no" 827)]
def o556:R:=G "choice" "ActionReader.choice" a_32_14 b_32_14 s_32_14
def o557:R:=C "choice" 821 "ActionReader.choice" 822 823 277 1 0 0 3 400 true 401 (.ref 402) (.ref 403) (.ref 404) 828 829
def o558:R:=F "choice" "ActionReader.choice" a_32_14 b_32_14 s_32_14 .none "grammarmill.actions" 518 405
def o561:R:=T #[(S "self" 834), (S "part" 835), (S "test" 836)]
def o563:R:=G "statement" "ActionReader.statement" a_32_15 b_32_15 s_32_15
def o564:R:=C "statement" 831 "ActionReader.statement" 832 833 284 1 0 0 3 407 true 408 (.ref 409) (.ref 410) (.ref 411) 837 838
def o565:R:=F "statement" "ActionReader.statement" a_32_15 b_32_15 s_32_15 .none "grammarmill.actions" 518 412
def o568:R:=T #[(S "self" 843), (S "least" 844), (S "left" 845), (S "below" 846), (S "is_compared" 847), (S "sign" 848), (S "level" 849), (S "right" 850)]
def o570:R:=G "expression" "ActionReader.expression" a_32_16 b_32_16 s_32_16
def o571:R:=C "expression" 840 "ActionReader.expression" 841 842 306 2 0 0 3 414 true 415 (.ref 416) (.ref 417) (.ref 418) 851 852
def o572:R:=F "expression" "ActionReader.expression" a_32_16 b_32_16 s_32_16 .none "grammarmill.actions" 518 419
def o575:R:=T #[(S "self" 857), (S "sign" 858), (S "found" 859)]
def o577:R:=G "unary" "ActionReader.unary" a_32_17 b_32_17 s_32_17
def o578:R:=C "unary" 854 "ActionReader.unary" 855 856 325 1 0 0 3 421 true 422 (.ref 423) (.ref 424) (.ref 425) 860 861
def o579:R:=F "unary" "ActionReader.unary" a_32_17 b_32_17 s_32_17 .none "grammarmill.actions" 518 426
def o582:R:=T #[(S "self" 866), (S "part" 867), (S "found" 868)]
def o584:R:=G "atom" "ActionReader.atom" a_32_18 b_32_18 s_32_18
def o585:R:=C "atom" 863 "ActionReader.atom" 864 865 334 1 0 0 3 428 true 429 (.ref 430) (.ref 431) (.ref 432) 869 870
def o586:R:=F "atom" "ActionReader.atom" a_32_18 b_32_18 s_32_18 .none "grammarmill.actions" 518 433
def o589:R:=T #[(S "self" 875), (S "end" 876), (S "found" 877), (S "below" 878)]
def o591:R:=G "items" "ActionReader.items" a_32_19 b_32_19 s_32_19
def o592:R:=C "items" 872 "ActionReader.items" 873 874 356 2 0 0 3 435 true 436 (.ref 437) (.ref 438) (.ref 439) 879 880
def o593:R:=F "items" "ActionReader.items" a_32_19 b_32_19 s_32_19 .none "grammarmill.actions" 518 440
def o594:R:=T #[(S "below" 882), (S "deep" 883), (S "parts" 884), (S "spot" 885), (S "text" 886)]
def o595:R:=fun P=>D #[s P "__module__" 704 "grammarmill.actions" 518, dE P "__firstlineno__" 708 (.int 203 707), e P "__init__" 716 307, e P "enter" 723 314, e P "leave" 731 321, e P "here" 738 328, e P "refuse" 746 335, e P "is_sign" 757 343, e P "skip" 765 350, e P "need" 773 357, e P "take" 781 364, e P "whole" 789 371, e P "is_closed" 796 378, e P "statements" 804 385, e P "block" 812 392, e P "condition" 820 399, e P "choice" 830 406, e P "statement" 839 413, e P "expression" 853 420, e P "unary" 862 427, e P "atom" 871 434, e P "items" 881 441, e P "__static_attributes__" 887 442, e P "__dict__" 889 445, e P "__weakref__" 891 446, dE P "__doc__" 892 .none] 4
noncomputable def o596:R:=fun _=>⟨(.type "type"), none, (.cls ⟨(.ofString "ActionReader"), [(.type "object")], [(.ref 444), (.type "object")], 443, (.ofString "ActionReader"), true, [], [], false, none, false⟩), #[none, none, (some (S "ActionReader" 697)), (some (S "ActionReader" 705)), (some (.builtin "object.__new__")), (some (.bool true))]⟩
noncomputable def o597:R:=fun _=>⟨(.type "getset_descriptor"), none, (.fields #[(S "__dict__" 888), (.ref 444), (.builtin "function.__dict__"), (.builtin "function.__dict__#set")]), #[]⟩
noncomputable def o598:R:=fun _=>⟨(.type "getset_descriptor"), none, (.fields #[(S "__weakref__" 890), (.ref 444), (.builtin "ExceptionGroup.__weakref__"), .none]), #[]⟩
noncomputable def o599:R:=fun _=>⟨(.type "super"), none, (.fields #[(.ref 444), (.ref 444), (.ref 444)]), #[]⟩
noncomputable def o600:R:=fun _=>⟨(.type "builtin_function_or_method"), none, (.fields #[(.builtin "object.__init_subclass__"), (.ref 444)]), #[]⟩
def o604:R:=fun P=>D #[s P "__module__" 704 "grammarmill.actions" 518, s P "__qualname__" 706 "ActionReader" 705, dE P "__firstlineno__" 708 (.int 203 707), e P "__init__" 716 307, e P "enter" 723 314, e P "leave" 731 321, e P "here" 738 328, e P "refuse" 746 335, e P "is_sign" 757 343, e P "skip" 765 350, e P "need" 773 357, e P "take" 781 364, e P "whole" 789 371, e P "is_closed" 796 378] 14
def o606:R:=B #[(I 205), (I 4), (.ref 306), (I 212), (I 4), (.ref 313), (I 217), (I 4), (.ref 320), (I 221), (I 4), (.ref 327), (I 224), (I 4), (.ref 334), (I 227), (I 4), (.ref 342), (I 231), (I 4), (.ref 349), (I 237), (I 4), (.ref 356), (I 241), (I 4), (.ref 363), (I 246), (I 4), (.ref 370), (I 252), (I 4), (.ref 377)]
def o690:R:=fun P=>D #[s P "__name__" 165 "grammarmill.machine" 1001, dE P "__doc__" 166 .none, dE P "__package__" 167 .none, dE P "__loader__" 168 (.builtin "__main__.__loader__#opaque"), dE P "__spec__" 169 .none, e P "__annotations__" 170 6, e P "__builtins__" 171 4, s P "__file__" 173 "/claim/cut.py" 172, dE P "__cached__" 174 .none, e P "_wall" 193 21, s P "SMALL" 197 "abcdefghijklmnopqrstuvwxyz" 196, s P "LETTERS" 200 "abcdefghijklmnopqrstuvwxyzABCDEFGHIJKLMNOPQRSTUVWXYZ" 199, s P "FIGURES" 202 "0123456789" 201, s P "NAME_SIGNS" 206 "abcdefghijklmnopqrstuvwxyzABCDEFGHIJKLMNOPQRSTUVWXYZ_0123456789" 205, s P "HEX_SIGNS" 209 "0123456789abcdefABCDEF" 208, s P "OCTAL_SIGNS" 211 "01234567" 210, dE P "MOST_FIGURES_source" 213 (.int 4000 212), e P "PLAIN_ESCAPES" 235 22, e P "Position" 275 46, e P "position_of" 287 57, e P "ToolError" 325 82, e P "ActionError" 341 95, e P "MachineError" 357 107, e P "Cursor" 517 234, e P "WORDS" 525 239, e P "RESERVED" 529 241, e P "LEVELS" 569 242, e P "SIGNS_OF_TWO" 576 243, s P "SIGNS_OF_ONE" 578 "+-*/%!<>=;,(){}[]" 577, s P "BLANKS" 580 " \t\n\x0d" 579, e P "FUNCTIONS" 614 244, dE P "MOST_BITS" 616 (.int 512 615), dE P "MOST_SIZE" 618 (.int 2000 617), dE P "MOST_DEEP" 620 (.int 100 619), e P "Part" 653 261, e P "refused" 662 272, e P "scan_dollar" 672 279, e P "scan_sign" 683 286, e P "scan_action" 696 293, e P "ActionReader" 894 444, e P "joined" 903 455, e P "parse_action" 910 462, e P "LEAVING" 916 463, e P "COMPARISONS" 923 464, dE P "MOST_PARTS" 925 (.int 300 924), e P "is_number" 932 471, e P "is_true" 939 478, e P "bounded" 946 485, e P "added" 955 492, e P "compared" 965 499, e P "part_count" 975 506, e P "are_equal" 983 513, e P "two_worth" 992 520, e P "one_worth" 1000 527, dE P "MOST_FIGURES_machine" 1004 (.int 160 1003)] 55
def o691:R:=B #[(I 1), (I 0), (.ref 20), (I 13), (I 0), (.ref 28), (I 22), (I 0), (.ref 56), (I 31), (I 0), (.ref 63), (I 40), (I 0), (.ref 91), (I 42), (I 0), (.ref 103), (I 44), (I 0), (.ref 115), (I 152), (I 0), (.ref 250), (I 158), (I 0), (.ref 271), (I 160), (I 0), (.ref 278), (I 167), (I 0), (.ref 285), (I 176), (I 0), (.ref 292), (I 203), (I 0), (.ref 299), (I 367), (I 0), (.ref 454), (I 373), (I 0), (.ref 461), (I 379), (I 0), (.ref 470), (I 381), (I 0), (.ref 477), (I 383), (I 0), (.ref 484), (I 390), (I 0), (.ref 491), (I 395), (I 0), (.ref 498), (I 406), (I 0), (.ref 505), (I 414), (I 0), (.ref 512), (I 418), (I 0), (.ref 519), (I 436), (I 0), (.ref 526)]
def o694:R:=T #[(S "sign" 898), (S "left" 899), (S "right" 900)]
def o696:R:=G "joined" "joined" a_33 b_33 s_33
def o697:R:=C "joined" 895 "joined" 896 897 367 3 0 0 3 449 true 450 (.ref 451) (.ref 452) (.ref 453) 901 902
def o698:R:=F "joined" "joined" a_33 b_33 s_33 .none "grammarmill.actions" 518 454
def o701:R:=T #[(S "text" 907)]
def o703:R:=G "parse_action" "parse_action" a_34 b_34 s_34
def o704:R:=C "parse_action" 904 "parse_action" 905 906 373 1 0 0 3 456 true 457 (.ref 458) (.ref 459) (.ref 460) 908 909
def o705:R:=F "parse_action" "parse_action" a_34 b_34 s_34 .none "grammarmill.actions" 518 461
def o706:R:=T #[(S "YYERROR" 913), (S "YYABORT" 914), (S "YYACCEPT" 915)]
def o707:R:=T #[(S "==" 917), (S "!=" 918), (S "<" 919), (S "<=" 920), (S ">" 921), (S ">=" 922)]
def o710:R:=T #[(S "value" 929)]
def o712:R:=G "is_number" "is_number" a_39 b_39 s_39
def o713:R:=C "is_number" 926 "is_number" 927 928 379 1 0 0 3 465 true 466 (.ref 467) (.ref 468) (.ref 469) 930 931
def o714:R:=F "is_number" "is_number" a_39 b_39 s_39 .none "grammarmill.codes" 911 470
def o717:R:=T #[(S "value" 936)]
def o719:R:=G "is_true" "is_true" a_40 b_40 s_40
def o720:R:=C "is_true" 933 "is_true" 934 935 381 1 0 0 3 472 true 473 (.ref 474) (.ref 475) (.ref 476) 937 938
def o721:R:=F "is_true" "is_true" a_40 b_40 s_40 .none "grammarmill.codes" 911 477
def o724:R:=T #[(S "value" 943)]
def o726:R:=G "bounded" "bounded" a_41 b_41 s_41
def o727:R:=C "bounded" 940 "bounded" 941 942 383 1 0 0 3 479 true 480 (.ref 481) (.ref 482) (.ref 483) 944 945
def o728:R:=F "bounded" "bounded" a_41 b_41 s_41 .none "grammarmill.codes" 911 484
def o731:R:=T #[(S "left" 950), (S "right" 951), (S "is_fit" 952)]
def o733:R:=G "added" "added" a_42 b_42 s_42
def o734:R:=C "added" 947 "added" 948 949 390 2 0 0 3 486 true 487 (.ref 488) (.ref 489) (.ref 490) 953 954
def o735:R:=F "added" "added" a_42 b_42 s_42 .none "grammarmill.codes" 911 491
def o738:R:=T #[(S "sign" 959), (S "left" 960), (S "right" 961), (S "is_fit" 962)]
def o740:R:=G "compared" "compared" a_43 b_43 s_43
def o741:R:=C "compared" 956 "compared" 957 958 395 3 0 0 3 493 true 494 (.ref 495) (.ref 496) (.ref 497) 963 964
def o742:R:=F "compared" "compared" a_43 b_43 s_43 .none "grammarmill.codes" 911 498
def o745:R:=T #[(S "value" 969), (S "waiting" 970), (S "count" 971), (S "part" 972)]
def o747:R:=G "part_count" "part_count" a_44 b_44 s_44
def o748:R:=C "part_count" 966 "part_count" 967 968 406 1 0 0 3 500 true 501 (.ref 502) (.ref 503) (.ref 504) 973 974
def o749:R:=F "part_count" "part_count" a_44 b_44 s_44 .none "grammarmill.codes" 911 505
def o752:R:=T #[(S "left" 979), (S "right" 980)]
def o754:R:=G "are_equal" "are_equal" a_45 b_45 s_45
def o755:R:=C "are_equal" 976 "are_equal" 977 978 414 2 0 0 3 507 true 508 (.ref 509) (.ref 510) (.ref 511) 981 982
def o756:R:=F "are_equal" "are_equal" a_45 b_45 s_45 .none "grammarmill.codes" 911 512
def o759:R:=T #[(S "sign" 987), (S "left" 988), (S "right" 989)]
def o761:R:=G "two_worth" "two_worth" a_46 b_46 s_46
def o762:R:=C "two_worth" 984 "two_worth" 985 986 418 3 0 0 3 514 true 515 (.ref 516) (.ref 517) (.ref 518) 990 991
def o763:R:=F "two_worth" "two_worth" a_46 b_46 s_46 .none "grammarmill.codes" 911 519
def o766:R:=T #[(S "sign" 996), (S "value" 997)]
def o768:R:=G "one_worth" "one_worth" a_47 b_47 s_47
def o769:R:=C "one_worth" 993 "one_worth" 994 995 436 2 0 0 3 521 true 522 (.ref 523) (.ref 524) (.ref 525) 998 999
def o770:R:=F "one_worth" "one_worth" a_47 b_47 s_47 .none "grammarmill.codes" 911 526
def o771:R:=fun P=>D #[s P "__name__" 165 "grammarmill.machine" 1001, dE P "__doc__" 166 .none, dE P "__package__" 167 .none, dE P "__loader__" 168 (.builtin "__main__.__loader__#opaque"), dE P "__spec__" 169 .none, e P "__annotations__" 170 6, e P "__builtins__" 171 4, s P "__file__" 173 "/claim/cut.py" 172, dE P "__cached__" 174 .none, e P "_wall" 193 21, s P "SMALL" 197 "abcdefghijklmnopqrstuvwxyz" 196, s P "LETTERS" 200 "abcdefghijklmnopqrstuvwxyzABCDEFGHIJKLMNOPQRSTUVWXYZ" 199, s P "FIGURES" 202 "0123456789" 201, s P "NAME_SIGNS" 206 "abcdefghijklmnopqrstuvwxyzABCDEFGHIJKLMNOPQRSTUVWXYZ_0123456789" 205, s P "HEX_SIGNS" 209 "0123456789abcdefABCDEF" 208, s P "OCTAL_SIGNS" 211 "01234567" 210, dE P "MOST_FIGURES_source" 213 (.int 4000 212), e P "PLAIN_ESCAPES" 235 22, e P "Position" 275 46, e P "position_of" 287 57, e P "ToolError" 325 82, e P "ActionError" 341 95, e P "MachineError" 357 107, e P "Cursor" 517 234, e P "WORDS" 525 239, e P "RESERVED" 529 241, e P "LEVELS" 569 242, e P "SIGNS_OF_TWO" 576 243, s P "SIGNS_OF_ONE" 578 "+-*/%!<>=;,(){}[]" 577, s P "BLANKS" 580 " \t\n\x0d" 579, e P "FUNCTIONS" 614 244, dE P "MOST_BITS" 616 (.int 512 615), dE P "MOST_SIZE" 618 (.int 2000 617), dE P "MOST_DEEP" 620 (.int 100 619), e P "Part" 653 261, e P "refused" 662 272, e P "scan_dollar" 672 279, e P "scan_sign" 683 286, e P "scan_action" 696 293, e P "ActionReader" 894 444, e P "joined" 903 455, e P "parse_action" 910 462, e P "LEAVING" 916 463, e P "COMPARISONS" 923 464, dE P "MOST_PARTS" 925 (.int 300 924), e P "is_number" 932 471, e P "is_true" 939 478, e P "bounded" 946 485, e P "added" 955 492, e P "compared" 965 499, e P "part_count" 975 506, e P "are_equal" 983 513, e P "two_worth" 992 520, e P "one_worth" 1000 527, dE P "MOST_FIGURES_machine" 1004 (.int 160 1003), e P "need" 1012 534, e P "need_list" 1019 541, e P "need_row" 1026 548, e P "need_number" 1035 555, e P "number_of" 1045 562, e P "text_of" 1052 569, e P "glued" 1061 576, e P "turned" 1068 583, e P "item_of" 1076 590, e P "cut_of" 1085 597, e P "end_of" 1093 604, e P "call_of_one" 1101 611, e P "applied" 1109 618] 68
def o772:R:=B #[(I 1), (I 0), (.ref 20), (I 13), (I 0), (.ref 28), (I 22), (I 0), (.ref 56), (I 31), (I 0), (.ref 63), (I 40), (I 0), (.ref 91), (I 42), (I 0), (.ref 103), (I 44), (I 0), (.ref 115), (I 152), (I 0), (.ref 250), (I 158), (I 0), (.ref 271), (I 160), (I 0), (.ref 278), (I 167), (I 0), (.ref 285), (I 176), (I 0), (.ref 292), (I 203), (I 0), (.ref 299), (I 367), (I 0), (.ref 454), (I 373), (I 0), (.ref 461), (I 379), (I 0), (.ref 470), (I 381), (I 0), (.ref 477), (I 383), (I 0), (.ref 484), (I 390), (I 0), (.ref 491), (I 395), (I 0), (.ref 498), (I 406), (I 0), (.ref 505), (I 414), (I 0), (.ref 512), (I 418), (I 0), (.ref 519), (I 436), (I 0), (.ref 526), (I 444), (I 0), (.ref 533), (I 447), (I 0), (.ref 540), (I 450), (I 0), (.ref 547), (I 453), (I 0), (.ref 554), (I 456), (I 0), (.ref 561), (I 465), (I 0), (.ref 568), (I 468), (I 0), (.ref 575), (I 473), (I 0), (.ref 582), (I 475), (I 0), (.ref 589), (I 478), (I 0), (.ref 596), (I 482), (I 0), (.ref 603), (I 488), (I 0), (.ref 610), (I 496), (I 0), (.ref 617)]
def o775:R:=T #[(S "is_right" 1008), (S "what" 1009)]
def o777:R:=G "need" "need" a_50 b_50 s_50
def o778:R:=C "need" 1005 "need" 1006 1007 444 2 0 0 3 528 true 529 (.ref 530) (.ref 531) (.ref 532) 1010 1011
def o779:R:=F "need" "need" a_50 b_50 s_50 .none "grammarmill.machine" 1001 533
def o782:R:=T #[(S "value" 1016)]
def o784:R:=G "need_list" "need_list" a_51 b_51 s_51
def o785:R:=C "need_list" 1013 "need_list" 1014 1015 447 1 0 0 3 535 true 536 (.ref 537) (.ref 538) (.ref 539) 1017 1018
def o786:R:=F "need_list" "need_list" a_51 b_51 s_51 .none "grammarmill.machine" 1001 540
def o789:R:=T #[(S "value" 1023)]
def o791:R:=G "need_row" "need_row" a_52 b_52 s_52
def o792:R:=C "need_row" 1020 "need_row" 1021 1022 450 1 0 0 3 542 true 543 (.ref 544) (.ref 545) (.ref 546) 1024 1025
def o793:R:=F "need_row" "need_row" a_52 b_52 s_52 .none "grammarmill.machine" 1001 547
def o796:R:=T #[(S "value" 1030), (S "least" 1031), (S "most" 1032)]
def o798:R:=G "need_number" "need_number" a_53 b_53 s_53
def o799:R:=C "need_number" 1027 "need_number" 1028 1029 453 3 0 0 3 549 true 550 (.ref 551) (.ref 552) (.ref 553) 1033 1034
def o800:R:=F "need_number" "need_number" a_53 b_53 s_53 .none "grammarmill.machine" 1001 554
def o803:R:=T #[(S "value" 1039), (S "figures" 1040), (S "total" 1041), (S "sign" 1042)]
def o805:R:=G "number_of" "number_of" a_54 b_54 s_54
def o806:R:=C "number_of" 1036 "number_of" 1037 1038 456 1 0 0 3 556 true 557 (.ref 558) (.ref 559) (.ref 560) 1043 1044
def o807:R:=F "number_of" "number_of" a_54 b_54 s_54 .none "grammarmill.machine" 1001 561
def o810:R:=T #[(S "value" 1049)]
def o812:R:=G "text_of" "text_of" a_55 b_55 s_55
def o813:R:=C "text_of" 1046 "text_of" 1047 1048 465 1 0 0 3 563 true 564 (.ref 565) (.ref 566) (.ref 567) 1050 1051
def o814:R:=F "text_of" "text_of" a_55 b_55 s_55 .none "grammarmill.machine" 1001 568
def o817:R:=T #[(S "parts" 1056), (S "between" 1057), (S "part" 1058)]
def o819:R:=G "glued" "glued" a_56 b_56 s_56
def o820:R:=C "glued" 1053 "glued" 1054 1055 468 2 0 0 3 570 true 571 (.ref 572) (.ref 573) (.ref 574) 1059 1060
def o821:R:=F "glued" "glued" a_56 b_56 s_56 .none "grammarmill.machine" 1001 575
def o824:R:=T #[(S "value" 1065)]
def o826:R:=G "turned" "turned" a_57 b_57 s_57
def o827:R:=C "turned" 1062 "turned" 1063 1064 473 1 0 0 3 577 true 578 (.ref 579) (.ref 580) (.ref 581) 1066 1067
def o828:R:=F "turned" "turned" a_57 b_57 s_57 .none "grammarmill.machine" 1001 582
def o831:R:=T #[(S "value" 1072), (S "number" 1073)]
def o833:R:=G "item_of" "item_of" a_58 b_58 s_58
def o834:R:=C "item_of" 1069 "item_of" 1070 1071 475 2 0 0 3 584 true 585 (.ref 586) (.ref 587) (.ref 588) 1074 1075
def o835:R:=F "item_of" "item_of" a_58 b_58 s_58 .none "grammarmill.machine" 1001 589
def o838:R:=T #[(S "value" 1080), (S "begin" 1081), (S "end" 1082)]
def o840:R:=G "cut_of" "cut_of" a_59 b_59 s_59
def o841:R:=C "cut_of" 1077 "cut_of" 1078 1079 478 3 0 0 3 591 true 592 (.ref 593) (.ref 594) (.ref 595) 1083 1084
def o842:R:=F "cut_of" "cut_of" a_59 b_59 s_59 .none "grammarmill.machine" 1001 596
def o845:R:=T #[(S "word" 1089), (S "value" 1090)]
def o847:R:=G "end_of" "end_of" a_60 b_60 s_60
def o848:R:=C "end_of" 1086 "end_of" 1087 1088 482 2 0 0 3 598 true 599 (.ref 600) (.ref 601) (.ref 602) 1091 1092
def o849:R:=F "end_of" "end_of" a_60 b_60 s_60 .none "grammarmill.machine" 1001 603
def o852:R:=T #[(S "word" 1097), (S "value" 1098)]
def o854:R:=G "call_of_one" "call_of_one" a_61 b_61 s_61
def o855:R:=C "call_of_one" 1094 "call_of_one" 1095 1096 488 2 0 0 3 605 true 606 (.ref 607) (.ref 608) (.ref 609) 1099 1100
def o856:R:=F "call_of_one" "call_of_one" a_61 b_61 s_61 .none "grammarmill.machine" 1001 610
def o859:R:=T #[(S "word" 1105), (S "values" 1106)]
def o861:R:=G "applied" "applied" a_62 b_62 s_62
def o862:R:=C "applied" 1102 "applied" 1103 1104 496 2 0 0 3 612 true 613 (.ref 614) (.ref 615) (.ref 616) 1107 1108
def o863:R:=F "applied" "applied" a_62 b_62 s_62 .none "grammarmill.machine" 1001 617
def o864:R:=fun P=>D #[s P "__name__" 165 "grammarmill.machine" 1001, dE P "__doc__" 166 .none, dE P "__package__" 167 .none, dE P "__loader__" 168 (.builtin "__main__.__loader__#opaque"), dE P "__spec__" 169 .none, e P "__annotations__" 170 6, e P "__builtins__" 171 4, s P "__file__" 173 "/claim/cut.py" 172, dE P "__cached__" 174 .none, e P "_wall" 193 21, s P "SMALL" 197 "abcdefghijklmnopqrstuvwxyz" 196, s P "LETTERS" 200 "abcdefghijklmnopqrstuvwxyzABCDEFGHIJKLMNOPQRSTUVWXYZ" 199, s P "FIGURES" 202 "0123456789" 201, s P "NAME_SIGNS" 206 "abcdefghijklmnopqrstuvwxyzABCDEFGHIJKLMNOPQRSTUVWXYZ_0123456789" 205, s P "HEX_SIGNS" 209 "0123456789abcdefABCDEF" 208, s P "OCTAL_SIGNS" 211 "01234567" 210, dE P "MOST_FIGURES_source" 213 (.int 4000 212), e P "PLAIN_ESCAPES" 235 22, e P "Position" 275 46, e P "position_of" 287 57, e P "ToolError" 325 82, e P "ActionError" 341 95, e P "MachineError" 357 107, e P "Cursor" 517 234, e P "WORDS" 525 239, e P "RESERVED" 529 241, e P "LEVELS" 569 242, e P "SIGNS_OF_TWO" 576 243, s P "SIGNS_OF_ONE" 578 "+-*/%!<>=;,(){}[]" 577, s P "BLANKS" 580 " \t\n\x0d" 579, e P "FUNCTIONS" 614 244, dE P "MOST_BITS" 616 (.int 512 615), dE P "MOST_SIZE" 618 (.int 2000 617), dE P "MOST_DEEP" 620 (.int 100 619), e P "Part" 653 261, e P "refused" 662 272, e P "scan_dollar" 672 279, e P "scan_sign" 683 286, e P "scan_action" 696 293, e P "ActionReader" 894 444, e P "joined" 903 455, e P "parse_action" 910 462, e P "LEAVING" 916 463, e P "COMPARISONS" 923 464, dE P "MOST_PARTS" 925 (.int 300 924), e P "is_number" 932 471, e P "is_true" 939 478, e P "bounded" 946 485, e P "added" 955 492, e P "compared" 965 499, e P "part_count" 975 506, e P "are_equal" 983 513, e P "two_worth" 992 520, e P "one_worth" 1000 527, dE P "MOST_FIGURES_machine" 1004 (.int 160 1003), e P "need" 1012 534, e P "need_list" 1019 541, e P "need_row" 1026 548, e P "need_number" 1035 555, e P "number_of" 1045 562, e P "text_of" 1052 569, e P "glued" 1061 576, e P "turned" 1068 583, e P "item_of" 1076 590, e P "cut_of" 1085 597, e P "end_of" 1093 604, e P "call_of_one" 1101 611, e P "applied" 1109 618, e P "value_at" 1117 625, e P "controlled" 1125 632] 70
def o865:R:=B #[(I 1), (I 0), (.ref 20), (I 13), (I 0), (.ref 28), (I 22), (I 0), (.ref 56), (I 31), (I 0), (.ref 63), (I 40), (I 0), (.ref 91), (I 42), (I 0), (.ref 103), (I 44), (I 0), (.ref 115), (I 152), (I 0), (.ref 250), (I 158), (I 0), (.ref 271), (I 160), (I 0), (.ref 278), (I 167), (I 0), (.ref 285), (I 176), (I 0), (.ref 292), (I 203), (I 0), (.ref 299), (I 367), (I 0), (.ref 454), (I 373), (I 0), (.ref 461), (I 379), (I 0), (.ref 470), (I 381), (I 0), (.ref 477), (I 383), (I 0), (.ref 484), (I 390), (I 0), (.ref 491), (I 395), (I 0), (.ref 498), (I 406), (I 0), (.ref 505), (I 414), (I 0), (.ref 512), (I 418), (I 0), (.ref 519), (I 436), (I 0), (.ref 526), (I 444), (I 0), (.ref 533), (I 447), (I 0), (.ref 540), (I 450), (I 0), (.ref 547), (I 453), (I 0), (.ref 554), (I 456), (I 0), (.ref 561), (I 465), (I 0), (.ref 568), (I 468), (I 0), (.ref 575), (I 473), (I 0), (.ref 582), (I 475), (I 0), (.ref 589), (I 478), (I 0), (.ref 596), (I 482), (I 0), (.ref 603), (I 488), (I 0), (.ref 610), (I 496), (I 0), (.ref 617), (I 507), (I 0), (.ref 624), (I 510), (I 0), (.ref 631)]
def o868:R:=T #[(S "values" 1113), (S "number" 1114)]
def o870:R:=G "value_at" "value_at" a_63 b_63 s_63
def o871:R:=C "value_at" 1110 "value_at" 1111 1112 507 2 0 0 3 619 true 620 (.ref 621) (.ref 622) (.ref 623) 1115 1116
def o872:R:=F "value_at" "value_at" a_63 b_63 s_63 .none "grammarmill.machine" 1001 624
def o875:R:=T #[(S "control" 1121), (S "word" 1122)]
def o877:R:=G "controlled" "controlled" a_64 b_64 s_64
def o878:R:=C "controlled" 1118 "controlled" 1119 1120 510 2 0 0 3 626 true 627 (.ref 628) (.ref 629) (.ref 630) 1123 1124
def o879:R:=F "controlled" "controlled" a_64 b_64 s_64 .none "grammarmill.machine" 1001 631
def o880:R:=fun P=>D #[s P "__name__" 165 "grammarmill.machine" 1001, dE P "__doc__" 166 .none, dE P "__package__" 167 .none, dE P "__loader__" 168 (.builtin "__main__.__loader__#opaque"), dE P "__spec__" 169 .none, e P "__annotations__" 170 6, e P "__builtins__" 171 4, s P "__file__" 173 "/claim/cut.py" 172, dE P "__cached__" 174 .none, e P "_wall" 193 21, s P "SMALL" 197 "abcdefghijklmnopqrstuvwxyz" 196, s P "LETTERS" 200 "abcdefghijklmnopqrstuvwxyzABCDEFGHIJKLMNOPQRSTUVWXYZ" 199, s P "FIGURES" 202 "0123456789" 201, s P "NAME_SIGNS" 206 "abcdefghijklmnopqrstuvwxyzABCDEFGHIJKLMNOPQRSTUVWXYZ_0123456789" 205, s P "HEX_SIGNS" 209 "0123456789abcdefABCDEF" 208, s P "OCTAL_SIGNS" 211 "01234567" 210, dE P "MOST_FIGURES_source" 213 (.int 4000 212), e P "PLAIN_ESCAPES" 235 22, e P "Position" 275 46, e P "position_of" 287 57, e P "ToolError" 325 82, e P "ActionError" 341 95, e P "MachineError" 357 107, e P "Cursor" 517 234, e P "WORDS" 525 239, e P "RESERVED" 529 241, e P "LEVELS" 569 242, e P "SIGNS_OF_TWO" 576 243, s P "SIGNS_OF_ONE" 578 "+-*/%!<>=;,(){}[]" 577, s P "BLANKS" 580 " \t\n\x0d" 579, e P "FUNCTIONS" 614 244, dE P "MOST_BITS" 616 (.int 512 615), dE P "MOST_SIZE" 618 (.int 2000 617), dE P "MOST_DEEP" 620 (.int 100 619), e P "Part" 653 261, e P "refused" 662 272, e P "scan_dollar" 672 279, e P "scan_sign" 683 286, e P "scan_action" 696 293, e P "ActionReader" 894 444, e P "joined" 903 455, e P "parse_action" 910 462, e P "LEAVING" 916 463, e P "COMPARISONS" 923 464, dE P "MOST_PARTS" 925 (.int 300 924), e P "is_number" 932 471, e P "is_true" 939 478, e P "bounded" 946 485, e P "added" 955 492, e P "compared" 965 499, e P "part_count" 975 506, e P "are_equal" 983 513, e P "two_worth" 992 520, e P "one_worth" 1000 527, dE P "MOST_FIGURES_machine" 1004 (.int 160 1003), e P "need" 1012 534, e P "need_list" 1019 541, e P "need_row" 1026 548, e P "need_number" 1035 555, e P "number_of" 1045 562, e P "text_of" 1052 569, e P "glued" 1061 576, e P "turned" 1068 583, e P "item_of" 1076 590, e P "cut_of" 1085 597, e P "end_of" 1093 604, e P "call_of_one" 1101 611, e P "applied" 1109 618, e P "value_at" 1117 625, e P "controlled" 1125 632, e P "Frame" 1204 684] 71
def o881:R:=B #[(I 1), (I 0), (.ref 20), (I 13), (I 0), (.ref 28), (I 22), (I 0), (.ref 56), (I 31), (I 0), (.ref 63), (I 40), (I 0), (.ref 91), (I 42), (I 0), (.ref 103), (I 44), (I 0), (.ref 115), (I 152), (I 0), (.ref 250), (I 158), (I 0), (.ref 271), (I 160), (I 0), (.ref 278), (I 167), (I 0), (.ref 285), (I 176), (I 0), (.ref 292), (I 203), (I 0), (.ref 299), (I 367), (I 0), (.ref 454), (I 373), (I 0), (.ref 461), (I 379), (I 0), (.ref 470), (I 381), (I 0), (.ref 477), (I 383), (I 0), (.ref 484), (I 390), (I 0), (.ref 491), (I 395), (I 0), (.ref 498), (I 406), (I 0), (.ref 505), (I 414), (I 0), (.ref 512), (I 418), (I 0), (.ref 519), (I 436), (I 0), (.ref 526), (I 444), (I 0), (.ref 533), (I 447), (I 0), (.ref 540), (I 450), (I 0), (.ref 547), (I 453), (I 0), (.ref 554), (I 456), (I 0), (.ref 561), (I 465), (I 0), (.ref 568), (I 468), (I 0), (.ref 575), (I 473), (I 0), (.ref 582), (I 475), (I 0), (.ref 589), (I 478), (I 0), (.ref 596), (I 482), (I 0), (.ref 603), (I 488), (I 0), (.ref 610), (I 496), (I 0), (.ref 617), (I 507), (I 0), (.ref 624), (I 510), (I 0), (.ref 631), (I 521), (I 0), (.ref 638)]
def o884:R:=fun P=>D #[s P "__module__" 1133 "grammarmill.machine" 1001, s P "__qualname__" 1135 "Frame" 1134, dE P "__firstlineno__" 1137 (.int 521 1136), e P "__init__" 1149 646, e P "count" 1156 653, e P "push" 1164 660, e P "pop" 1171 667, e P "pop_some" 1180 674, e P "tell" 1188 681, e P "__static_attributes__" 1197 682] 10
def o886:R:=B #[(I 523), (I 4), (.ref 645), (I 533), (I 4), (.ref 652), (I 537), (I 4), (.ref 659), (I 540), (I 4), (.ref 666), (I 544), (I 4), (.ref 673), (I 550), (I 4), (.ref 680)]
def o887:R:=C "Frame" 1128 "Frame" 1129 1130 521 0 0 0 0 636 false 637 .none .none .none 1131 1132
noncomputable def o888:R:=fun _=>⟨(.type "frame"), none, .plain, #[(some (.ref 638)), (some (.ref 3)), (some (.ref 635)), none, (some (S "grammarmill.machine" 1001)), none, (some (.ref 0))]⟩
def o891:R:=T #[(S "self" 1141), (S "values" 1142), (S "names" 1143), (S "control" 1144), (S "own" 1145), (S "most" 1146)]
def o893:R:=G "__init__" "Frame.__init__" a_65_0 b_65_0 s_65_0
def o894:R:=C "__init__" 1138 "Frame.__init__" 1139 1140 523 6 0 0 3 640 true 641 (.ref 642) (.ref 643) (.ref 644) 1147 1148
def o895:R:=F "__init__" "Frame.__init__" a_65_0 b_65_0 s_65_0 .none "grammarmill.machine" 1001 645
def o898:R:=T #[(S "self" 1153)]
def o900:R:=G "count" "Frame.count" a_65_1 b_65_1 s_65_1
def o901:R:=C "count" 1150 "Frame.count" 1151 1152 533 1 0 0 3 647 true 648 (.ref 649) (.ref 650) (.ref 651) 1154 1155
def o902:R:=F "count" "Frame.count" a_65_1 b_65_1 s_65_1 .none "grammarmill.machine" 1001 652
def o905:R:=T #[(S "self" 1160), (S "value" 1161)]
def o907:R:=G "push" "Frame.push" a_65_2 b_65_2 s_65_2
def o908:R:=C "push" 1157 "Frame.push" 1158 1159 537 2 0 0 3 654 true 655 (.ref 656) (.ref 657) (.ref 658) 1162 1163
def o909:R:=F "push" "Frame.push" a_65_2 b_65_2 s_65_2 .none "grammarmill.machine" 1001 659
def o912:R:=T #[(S "self" 1168)]
def o914:R:=G "pop" "Frame.pop" a_65_3 b_65_3 s_65_3
def o915:R:=C "pop" 1165 "Frame.pop" 1166 1167 540 1 0 0 3 661 true 662 (.ref 663) (.ref 664) (.ref 665) 1169 1170
def o916:R:=F "pop" "Frame.pop" a_65_3 b_65_3 s_65_3 .none "grammarmill.machine" 1001 666
def o919:R:=T #[(S "self" 1175), (S "count" 1176), (S "found" 1177)]
def o921:R:=G "pop_some" "Frame.pop_some" a_65_4 b_65_4 s_65_4
def o922:R:=C "pop_some" 1172 "Frame.pop_some" 1173 1174 544 2 0 0 3 668 true 669 (.ref 670) (.ref 671) (.ref 672) 1178 1179
def o923:R:=F "pop_some" "Frame.pop_some" a_65_4 b_65_4 s_65_4 .none "grammarmill.machine" 1001 673
def o926:R:=T #[(S "self" 1184), (S "word" 1185)]
def o928:R:=G "tell" "Frame.tell" a_65_5 b_65_5 s_65_5
def o929:R:=C "tell" 1181 "Frame.tell" 1182 1183 550 2 0 0 3 675 true 676 (.ref 677) (.ref 678) (.ref 679) 1186 1187
def o930:R:=F "tell" "Frame.tell" a_65_5 b_65_5 s_65_5 .none "grammarmill.machine" 1001 680
def o931:R:=T #[(S "control" 1189), (S "is_left" 1190), (S "most" 1191), (S "names" 1192), (S "own" 1193), (S "stack" 1194), (S "steps" 1195), (S "values" 1196)]
def o932:R:=fun P=>D #[s P "__module__" 1133 "grammarmill.machine" 1001, dE P "__firstlineno__" 1137 (.int 521 1136), e P "__init__" 1149 646, e P "count" 1156 653, e P "push" 1164 660, e P "pop" 1171 667, e P "pop_some" 1180 674, e P "tell" 1188 681, e P "__static_attributes__" 1197 682, e P "__dict__" 1199 685, e P "__weakref__" 1201 686, dE P "__doc__" 1202 .none] 4
noncomputable def o933:R:=fun _=>⟨(.type "type"), none, (.cls ⟨(.ofString "Frame"), [(.type "object")], [(.ref 684), (.type "object")], 683, (.ofString "Frame"), true, [], [], false, none, false⟩), #[none, none, (some (S "Frame" 1126)), (some (S "Frame" 1134)), (some (.builtin "object.__new__")), (some (.bool true))]⟩
noncomputable def o934:R:=fun _=>⟨(.type "getset_descriptor"), none, (.fields #[(S "__dict__" 1198), (.ref 684), (.builtin "function.__dict__"), (.builtin "function.__dict__#set")]), #[]⟩
noncomputable def o935:R:=fun _=>⟨(.type "getset_descriptor"), none, (.fields #[(S "__weakref__" 1200), (.ref 684), (.builtin "ExceptionGroup.__weakref__"), .none]), #[]⟩
noncomputable def o936:R:=fun _=>⟨(.type "super"), none, (.fields #[(.ref 684), (.ref 684), (.ref 684)]), #[]⟩
noncomputable def o937:R:=fun _=>⟨(.type "builtin_function_or_method"), none, (.fields #[(.builtin "object.__init_subclass__"), (.ref 684)]), #[]⟩
def o938:R:=fun P=>D #[s P "__name__" 165 "grammarmill.machine" 1001, dE P "__doc__" 166 .none, dE P "__package__" 167 .none, dE P "__loader__" 168 (.builtin "__main__.__loader__#opaque"), dE P "__spec__" 169 .none, e P "__annotations__" 170 6, e P "__builtins__" 171 4, s P "__file__" 173 "/claim/cut.py" 172, dE P "__cached__" 174 .none, e P "_wall" 193 21, s P "SMALL" 197 "abcdefghijklmnopqrstuvwxyz" 196, s P "LETTERS" 200 "abcdefghijklmnopqrstuvwxyzABCDEFGHIJKLMNOPQRSTUVWXYZ" 199, s P "FIGURES" 202 "0123456789" 201, s P "NAME_SIGNS" 206 "abcdefghijklmnopqrstuvwxyzABCDEFGHIJKLMNOPQRSTUVWXYZ_0123456789" 205, s P "HEX_SIGNS" 209 "0123456789abcdefABCDEF" 208, s P "OCTAL_SIGNS" 211 "01234567" 210, dE P "MOST_FIGURES_source" 213 (.int 4000 212), e P "PLAIN_ESCAPES" 235 22, e P "Position" 275 46, e P "position_of" 287 57, e P "ToolError" 325 82, e P "ActionError" 341 95, e P "MachineError" 357 107, e P "Cursor" 517 234, e P "WORDS" 525 239, e P "RESERVED" 529 241, e P "LEVELS" 569 242, e P "SIGNS_OF_TWO" 576 243, s P "SIGNS_OF_ONE" 578 "+-*/%!<>=;,(){}[]" 577, s P "BLANKS" 580 " \t\n\x0d" 579, e P "FUNCTIONS" 614 244, dE P "MOST_BITS" 616 (.int 512 615), dE P "MOST_SIZE" 618 (.int 2000 617), dE P "MOST_DEEP" 620 (.int 100 619), e P "Part" 653 261, e P "refused" 662 272, e P "scan_dollar" 672 279, e P "scan_sign" 683 286, e P "scan_action" 696 293, e P "ActionReader" 894 444, e P "joined" 903 455, e P "parse_action" 910 462, e P "LEAVING" 916 463, e P "COMPARISONS" 923 464, dE P "MOST_PARTS" 925 (.int 300 924), e P "is_number" 932 471, e P "is_true" 939 478, e P "bounded" 946 485, e P "added" 955 492, e P "compared" 965 499, e P "part_count" 975 506, e P "are_equal" 983 513, e P "two_worth" 992 520, e P "one_worth" 1000 527, dE P "MOST_FIGURES_machine" 1004 (.int 160 1003), e P "need" 1012 534, e P "need_list" 1019 541, e P "need_row" 1026 548, e P "need_number" 1035 555, e P "number_of" 1045 562, e P "text_of" 1052 569, e P "glued" 1061 576, e P "turned" 1068 583, e P "item_of" 1076 590, e P "cut_of" 1085 597, e P "end_of" 1093 604, e P "call_of_one" 1101 611, e P "applied" 1109 618, e P "value_at" 1117 625, e P "controlled" 1125 632, e P "Frame" 1204 684, e P "Machine" 1322 760] 72
def o939:R:=B #[(I 1), (I 0), (.ref 20), (I 13), (I 0), (.ref 28), (I 22), (I 0), (.ref 56), (I 31), (I 0), (.ref 63), (I 40), (I 0), (.ref 91), (I 42), (I 0), (.ref 103), (I 44), (I 0), (.ref 115), (I 152), (I 0), (.ref 250), (I 158), (I 0), (.ref 271), (I 160), (I 0), (.ref 278), (I 167), (I 0), (.ref 285), (I 176), (I 0), (.ref 292), (I 203), (I 0), (.ref 299), (I 367), (I 0), (.ref 454), (I 373), (I 0), (.ref 461), (I 379), (I 0), (.ref 470), (I 381), (I 0), (.ref 477), (I 383), (I 0), (.ref 484), (I 390), (I 0), (.ref 491), (I 395), (I 0), (.ref 498), (I 406), (I 0), (.ref 505), (I 414), (I 0), (.ref 512), (I 418), (I 0), (.ref 519), (I 436), (I 0), (.ref 526), (I 444), (I 0), (.ref 533), (I 447), (I 0), (.ref 540), (I 450), (I 0), (.ref 547), (I 453), (I 0), (.ref 554), (I 456), (I 0), (.ref 561), (I 465), (I 0), (.ref 568), (I 468), (I 0), (.ref 575), (I 473), (I 0), (.ref 582), (I 475), (I 0), (.ref 589), (I 478), (I 0), (.ref 596), (I 482), (I 0), (.ref 603), (I 488), (I 0), (.ref 610), (I 496), (I 0), (.ref 617), (I 507), (I 0), (.ref 624), (I 510), (I 0), (.ref 631), (I 521), (I 0), (.ref 638), (I 554), (I 0), (.ref 694)]
def o942:R:=fun P=>D #[s P "__module__" 1212 "grammarmill.machine" 1001, s P "__qualname__" 1214 "Machine" 1213, dE P "__firstlineno__" 1216 (.int 554 1215), e P "__init__" 1225 703, e P "run" 1241 710, e P "jumped" 1252 717, e P "step" 1263 724, e P "store" 1273 731, e P "evaluate" 1286 738, e P "statements" 1296 745, e P "statement" 1307 752, e P "value" 1313 757, e P "__static_attributes__" 1315 758] 13
def o944:R:=B #[(I 556), (I 4), (.ref 702), (I 559), (I 4), (.ref 709), (I 568), (I 4), (.ref 716), (I 573), (I 4), (.ref 723), (I 596), (I 4), (.ref 730), (I 608), (I 4), (.ref 737), (I 613), (I 4), (.ref 744), (I 619), (I 4), (.ref 751), (I 636), (I 4), (.ref 756)]
def o945:R:=C "Machine" 1207 "Machine" 1208 1209 554 0 0 0 0 692 false 693 .none .none .none 1210 1211
noncomputable def o946:R:=fun _=>⟨(.type "frame"), none, .plain, #[(some (.ref 694)), (some (.ref 3)), (some (.ref 691)), none, (some (S "grammarmill.machine" 1001)), none, (some (.ref 0))]⟩
def o947:R:=T #[(.int 2000 1217)]
def o950:R:=T #[(S "self" 1221), (S "most" 1222)]
def o952:R:=G "__init__" "Machine.__init__" a_66_0 b_66_0 s_66_0
def o953:R:=C "__init__" 1218 "Machine.__init__" 1219 1220 556 2 0 0 3 697 true 698 (.ref 699) (.ref 700) (.ref 701) 1223 1224
def o954:R:=F "__init__" "Machine.__init__" a_66_0 b_66_0 s_66_0 (.ref 696) "grammarmill.machine" 1001 702
def o957:R:=T #[(S "self" 1229), (S "code" 1230), (S "values" 1231), (S "names" 1232), (S "control" 1233), (S "own" 1234), (S "frame" 1235), (S "at" 1236), (S "op" 1237), (S "worth" 1238)]
def o959:R:=G "run" "Machine.run" a_66_1 b_66_1 s_66_1
def o960:R:=C "run" 1226 "Machine.run" 1227 1228 559 6 0 0 3 704 true 705 (.ref 706) (.ref 707) (.ref 708) 1239 1240
def o961:R:=F "run" "Machine.run" a_66_1 b_66_1 s_66_1 .none "grammarmill.machine" 1001 709
def o964:R:=T #[(S "self" 1245), (S "frame" 1246), (S "op" 1247), (S "worth" 1248), (S "at" 1249)]
def o966:R:=G "jumped" "Machine.jumped" a_66_2 b_66_2 s_66_2
def o967:R:=C "jumped" 1242 "Machine.jumped" 1243 1244 568 5 0 0 3 711 true 712 (.ref 713) (.ref 714) (.ref 715) 1250 1251
def o968:R:=F "jumped" "Machine.jumped" a_66_2 b_66_2 s_66_2 .none "grammarmill.machine" 1001 716
def o971:R:=T #[(S "self" 1256), (S "frame" 1257), (S "op" 1258), (S "worth" 1259), (S "right" 1260)]
def o973:R:=G "step" "Machine.step" a_66_3 b_66_3 s_66_3
def o974:R:=C "step" 1253 "Machine.step" 1254 1255 573 4 0 0 3 718 true 719 (.ref 720) (.ref 721) (.ref 722) 1261 1262
def o975:R:=F "step" "Machine.step" a_66_3 b_66_3 s_66_3 .none "grammarmill.machine" 1001 723
def o978:R:=T #[(S "self" 1267), (S "frame" 1268), (S "op" 1269), (S "worth" 1270)]
def o980:R:=G "store" "Machine.store" a_66_4 b_66_4 s_66_4
def o981:R:=C "store" 1264 "Machine.store" 1265 1266 596 4 0 0 3 725 true 726 (.ref 727) (.ref 728) (.ref 729) 1271 1272
def o982:R:=F "store" "Machine.store" a_66_4 b_66_4 s_66_4 .none "grammarmill.machine" 1001 730
def o985:R:=T #[(S "self" 1277), (S "nodes" 1278), (S "values" 1279), (S "names" 1280), (S "control" 1281), (S "own" 1282), (S "frame" 1283)]
def o987:R:=G "evaluate" "Machine.evaluate" a_66_5 b_66_5 s_66_5
def o988:R:=C "evaluate" 1274 "Machine.evaluate" 1275 1276 608 6 0 0 3 732 true 733 (.ref 734) (.ref 735) (.ref 736) 1284 1285
def o989:R:=F "evaluate" "Machine.evaluate" a_66_5 b_66_5 s_66_5 .none "grammarmill.machine" 1001 737
def o992:R:=T #[(S "self" 1290), (S "frame" 1291), (S "nodes" 1292), (S "node" 1293)]
def o994:R:=G "statements" "Machine.statements" a_66_6 b_66_6 s_66_6
def o995:R:=C "statements" 1287 "Machine.statements" 1288 1289 613 3 0 0 3 739 true 740 (.ref 741) (.ref 742) (.ref 743) 1294 1295
def o996:R:=F "statements" "Machine.statements" a_66_6 b_66_6 s_66_6 .none "grammarmill.machine" 1001 744
def o999:R:=T #[(S "self" 1300), (S "frame" 1301), (S "node" 1302), (S "kind" 1303), (S "is_yes" 1304)]
def o1001:R:=G "statement" "Machine.statement" a_66_7 b_66_7 s_66_7
def o1002:R:=C "statement" 1297 "Machine.statement" 1298 1299 619 3 0 0 3 746 true 747 (.ref 748) (.ref 749) (.ref 750) 1305 1306
def o1003:R:=F "statement" "Machine.statement" a_66_7 b_66_7 s_66_7 .none "grammarmill.machine" 1001 751
def o1006:R:=G "value" "Machine.value" a_66_8 b_66_8 s_66_8
def o1007:R:=C "value" 1308 "Machine.value" 1309 1310 636 3 0 0 3 753 true 754 .none .none (.ref 755) 1311 1312
def o1008:R:=F "value" "Machine.value" a_66_8 b_66_8 s_66_8 .none "grammarmill.machine" 1001 756
def o1009:R:=T #[(S "most" 1314)]
def o1010:R:=fun P=>D #[s P "__module__" 1212 "grammarmill.machine" 1001, dE P "__firstlineno__" 1216 (.int 554 1215), e P "__init__" 1225 703, e P "run" 1241 710, e P "jumped" 1252 717, e P "step" 1263 724, e P "store" 1273 731, e P "evaluate" 1286 738, e P "statements" 1296 745, e P "statement" 1307 752, e P "value" 1313 757, e P "__static_attributes__" 1315 758, e P "__dict__" 1317 761, e P "__weakref__" 1319 762, dE P "__doc__" 1320 .none] 4
noncomputable def o1011:R:=fun _=>⟨(.type "type"), none, (.cls ⟨(.ofString "Machine"), [(.type "object")], [(.ref 760), (.type "object")], 759, (.ofString "Machine"), true, [], [], false, none, false⟩), #[none, none, (some (S "Machine" 1205)), (some (S "Machine" 1213)), (some (.builtin "object.__new__")), (some (.bool true))]⟩
noncomputable def o1012:R:=fun _=>⟨(.type "getset_descriptor"), none, (.fields #[(S "__dict__" 1316), (.ref 760), (.builtin "function.__dict__"), (.builtin "function.__dict__#set")]), #[]⟩
noncomputable def o1013:R:=fun _=>⟨(.type "getset_descriptor"), none, (.fields #[(S "__weakref__" 1318), (.ref 760), (.builtin "ExceptionGroup.__weakref__"), .none]), #[]⟩
noncomputable def o1014:R:=fun _=>⟨(.type "super"), none, (.fields #[(.ref 760), (.ref 760), (.ref 760)]), #[]⟩
noncomputable def o1015:R:=fun _=>⟨(.type "builtin_function_or_method"), none, (.fields #[(.builtin "object.__init_subclass__"), (.ref 760)]), #[]⟩
def o1016:R:=fun P=>D #[s P "__name__" 165 "law_qd0072_01" 1323, dE P "__doc__" 166 .none, dE P "__package__" 167 .none, dE P "__loader__" 168 (.builtin "__main__.__loader__#opaque"), dE P "__spec__" 169 .none, e P "__annotations__" 170 6, e P "__builtins__" 171 4, s P "__file__" 173 "/claim/cut.py" 172, dE P "__cached__" 174 .none, e P "_wall" 193 21, s P "SMALL" 197 "abcdefghijklmnopqrstuvwxyz" 196, s P "LETTERS" 200 "abcdefghijklmnopqrstuvwxyzABCDEFGHIJKLMNOPQRSTUVWXYZ" 199, s P "FIGURES" 202 "0123456789" 201, s P "NAME_SIGNS" 206 "abcdefghijklmnopqrstuvwxyzABCDEFGHIJKLMNOPQRSTUVWXYZ_0123456789" 205, s P "HEX_SIGNS" 209 "0123456789abcdefABCDEF" 208, s P "OCTAL_SIGNS" 211 "01234567" 210, dE P "MOST_FIGURES_source" 213 (.int 4000 212), e P "PLAIN_ESCAPES" 235 22, e P "Position" 275 46, e P "position_of" 287 57, e P "ToolError" 325 82, e P "ActionError" 341 95, e P "MachineError" 357 107, e P "Cursor" 517 234, e P "WORDS" 525 239, e P "RESERVED" 529 241, e P "LEVELS" 569 242, e P "SIGNS_OF_TWO" 576 243, s P "SIGNS_OF_ONE" 578 "+-*/%!<>=;,(){}[]" 577, s P "BLANKS" 580 " \t\n\x0d" 579, e P "FUNCTIONS" 614 244, dE P "MOST_BITS" 616 (.int 512 615), dE P "MOST_SIZE" 618 (.int 2000 617), dE P "MOST_DEEP" 620 (.int 100 619), e P "Part" 653 261, e P "refused" 662 272, e P "scan_dollar" 672 279, e P "scan_sign" 683 286, e P "scan_action" 696 293, e P "ActionReader" 894 444, e P "joined" 903 455, e P "parse_action" 910 462, e P "LEAVING" 916 463, e P "COMPARISONS" 923 464, dE P "MOST_PARTS" 925 (.int 300 924), e P "is_number" 932 471, e P "is_true" 939 478, e P "bounded" 946 485, e P "added" 955 492, e P "compared" 965 499, e P "part_count" 975 506, e P "are_equal" 983 513, e P "two_worth" 992 520, e P "one_worth" 1000 527, dE P "MOST_FIGURES_machine" 1004 (.int 160 1003), e P "need" 1012 534, e P "need_list" 1019 541, e P "need_row" 1026 548, e P "need_number" 1035 555, e P "number_of" 1045 562, e P "text_of" 1052 569, e P "glued" 1061 576, e P "turned" 1068 583, e P "item_of" 1076 590, e P "cut_of" 1085 597, e P "end_of" 1093 604, e P "call_of_one" 1101 611, e P "applied" 1109 618, e P "value_at" 1117 625, e P "controlled" 1125 632, e P "Frame" 1204 684, e P "Machine" 1322 760, e P "_law_draw" 1333 771, e P "_law_ran" 1340 778, e P "_law_list_right" 1346 783, e P "_law_text_right" 1361 790, e P "law" 1367 795] 77
def o1017:R:=B #[(I 1), (I 0), (.ref 20), (I 13), (I 0), (.ref 28), (I 22), (I 0), (.ref 56), (I 31), (I 0), (.ref 63), (I 40), (I 0), (.ref 91), (I 42), (I 0), (.ref 103), (I 44), (I 0), (.ref 115), (I 152), (I 0), (.ref 250), (I 158), (I 0), (.ref 271), (I 160), (I 0), (.ref 278), (I 167), (I 0), (.ref 285), (I 176), (I 0), (.ref 292), (I 203), (I 0), (.ref 299), (I 367), (I 0), (.ref 454), (I 373), (I 0), (.ref 461), (I 379), (I 0), (.ref 470), (I 381), (I 0), (.ref 477), (I 383), (I 0), (.ref 484), (I 390), (I 0), (.ref 491), (I 395), (I 0), (.ref 498), (I 406), (I 0), (.ref 505), (I 414), (I 0), (.ref 512), (I 418), (I 0), (.ref 519), (I 436), (I 0), (.ref 526), (I 444), (I 0), (.ref 533), (I 447), (I 0), (.ref 540), (I 450), (I 0), (.ref 547), (I 453), (I 0), (.ref 554), (I 456), (I 0), (.ref 561), (I 465), (I 0), (.ref 568), (I 468), (I 0), (.ref 575), (I 473), (I 0), (.ref 582), (I 475), (I 0), (.ref 589), (I 478), (I 0), (.ref 596), (I 482), (I 0), (.ref 603), (I 488), (I 0), (.ref 610), (I 496), (I 0), (.ref 617), (I 507), (I 0), (.ref 624), (I 510), (I 0), (.ref 631), (I 521), (I 0), (.ref 638), (I 554), (I 0), (.ref 694), (I 661), (I 0), (.ref 770), (I 667), (I 0), (.ref 777), (I 672), (I 0), (.ref 782), (I 688), (I 0), (.ref 789), (I 700), (I 0), (.ref 794)]
def o1020:R:=T #[(S "pen" 1328), (S "many" 1329), (S "spot" 1330)]
def o1022:R:=G "_law_draw" "_law_draw" a_68 b_68 s_68
def o1023:R:=C "_law_draw" 1325 "_law_draw" 1326 1327 661 2 0 0 3 765 true 766 (.ref 767) (.ref 768) (.ref 769) 1331 1332
def o1024:R:=F "_law_draw" "_law_draw" a_68 b_68 s_68 .none "law_qd0072_01" 1323 770
def o1027:R:=T #[(S "work" 1337)]
def o1029:R:=G "_law_ran" "_law_ran" a_69 b_69 s_69
def o1030:R:=C "_law_ran" 1334 "_law_ran" 1335 1336 667 1 0 0 3 772 true 773 (.ref 774) (.ref 775) (.ref 776) 1338 1339
def o1031:R:=F "_law_ran" "_law_ran" a_69 b_69 s_69 .none "law_qd0072_01" 1323 777
def o1034:R:=G "_law_list_right" "_law_list_right" a_70 b_70 s_70
def o1035:R:=C "_law_list_right" 1341 "_law_list_right" 1342 1343 672 2 0 0 3 779 true 780 .none .none (.ref 781) 1344 1345
def o1036:R:=F "_law_list_right" "_law_list_right" a_70 b_70 s_70 .none "law_qd0072_01" 1323 782
def o1039:R:=T #[(S "pen" 1350), (S "count" 1351), (S "gap" 1352), (S "shown" 1353), (S "worth" 1354), (S "page" 1355), (S "due" 1356), (S "found" 1357), (S "fault" 1358)]
def o1041:R:=G "_law_text_right" "_law_text_right" a_71 b_71 s_71
def o1042:R:=C "_law_text_right" 1347 "_law_text_right" 1348 1349 688 1 0 0 3 784 true 785 (.ref 786) (.ref 787) (.ref 788) 1359 1360
def o1043:R:=F "_law_text_right" "_law_text_right" a_71 b_71 s_71 .none "law_qd0072_01" 1323 789
def o1046:R:=G "law" "law" a_72 b_72 s_72
def o1047:R:=C "law" 1362 "law" 1363 1364 700 1 0 0 3 791 true 792 .none .none (.ref 793) 1365 1366
def o1048:R:=F "law" "law" a_72 b_72 s_72 .none "law_qd0072_01" 1323 794
def tree_47:U:=N boot_o_0 (N boot_o_1 (N boot_o_3 (H boot_o_7) (H o43)) (N boot_o_5 (H boot_o_9) (H o45))) (N boot_o_2 (N boot_o_4 (H boot_o_8) (H o44)) (N boot_o_6 (H boot_o_10) (H o46)))
def tree_58:U:=N boot_o_0 (N boot_o_1 (N o49 (J boot_o_7 (H o43)) (J o43 (H o55))) (N boot_o_5 (J boot_o_9 (H o53)) (J o45 (H o57)))) (N boot_o_2 (N boot_o_4 (J boot_o_8 (H o44)) (J o50 (H o56))) (N boot_o_6 (J boot_o_10 (H o43)) (J o46 (H o58))))
def tree_97:U:=N boot_o_0 (N boot_o_1 (N o61 (N boot_o_7 (N o43 (H o44) (H o87)) (N o43 (H o79) (H o95))) (N o43 (N o55 (H o75) (H o43)) (J o67 (H o83)))) (N boot_o_5 (N boot_o_9 (N o53 (H o43) (H o89)) (N o65 (H o81) (H o97))) (N o45 (N o57 (H o43) (H o93)) (J o69 (H o85))))) (N boot_o_2 (N boot_o_4 (N boot_o_8 (N o44 (H o72) (H o88)) (N o64 (H o43) (H o96))) (N o62 (N o56 (H o76) (H o44)) (J o68 (H o84)))) (N boot_o_6 (N boot_o_10 (N o43 (H o74) (H o90)) (J o43 (H o82))) (N o46 (N o58 (H o44) (H o43)) (J o43 (H o86)))))
def t4:U:=N o55 (J o75 (H o44)) (J o43 (H o126))
def t8:U:=J o43 (H o43)
def t10:U:=N o57 t8 (J o93 (H o128))
def t15:U:=N o56 (J o76 (H o111)) (J o44 (H o127))
def tree_128:U:=N boot_o_0 (N boot_o_1 (N o99 (N boot_o_7 (N o43 (J o44 (H o106)) (J o87 (H o122))) (N o43 (J o79 (H o114)) (H o95))) (N o43 t4 (N o67 (J o83 (H o118)) (H o64)))) (N boot_o_5 (N boot_o_9 (N o53 (J o43 (H o108)) (J o89 (H o124))) (N o65 (J o81 (H o43)) (H o97))) (N o45 t10 (N o69 (J o85 (H o120)) (H o43))))) (N o98 (N boot_o_4 (N boot_o_8 (N o44 (J o72 (H o107)) (J o88 (H o123))) (N o64 (J o43 (H o115)) (H o96))) (N o100 t15 (N o68 (J o84 (H o43)) (H o103)))) (N boot_o_6 (N boot_o_10 (N o43 (J o74 (H o43)) (J o90 (H o125))) (N o43 (J o82 (H o44)) (H o101))) (N o46 (N o58 (J o44 (H o113)) (H o43)) (N o43 (J o86 (H o121)) (H o105)))))
def t22:U:=N o43 (N o44 (H o106) (H o141)) (J o87 (H o122))
def t28:U:=N o53 (N o43 (H o108) (H o143)) (J o89 (H o124))
def t33:U:=N o44 (N o72 (H o107) (H o142)) (J o88 (H o123))
def t44:U:=N o43 (J o86 (H o121)) (J o105 (H o140))
def tree_143:U:=N boot_o_0 (N boot_o_1 (N o129 (N boot_o_7 t22 (N o43 (J o79 (H o114)) (J o95 (H o64)))) (N o43 t4 (N o67 (J o83 (H o118)) (J o64 (H o137))))) (N boot_o_5 (N boot_o_9 t28 (N o65 (J o81 (H o43)) (J o97 (H o43)))) (N o45 t10 (N o69 (J o85 (H o120)) t8)))) (N o98 (N boot_o_4 (N boot_o_8 t33 (N o64 (J o43 (H o115)) (J o96 (H o134)))) (N o130 t15 (N o68 (J o84 (H o43)) (J o103 (H o138))))) (N boot_o_6 (N boot_o_10 (N o43 (J o74 (H o43)) (J o90 (H o131))) (N o43 (J o82 (H o44)) (J o101 (H o44)))) (N o46 (N o58 (J o44 (H o113)) (J o43 (H o132))) t44)))
def t49:U:=N o43 (H o43) (H o43)
def tree_158:U:=N boot_o_0 (N boot_o_1 (N o144 (N boot_o_7 t22 (N o43 (N o79 (H o114) (H o152)) (J o95 (H o64)))) (N o43 (N o55 (N o75 (H o44) (H o64)) (J o43 (H o126))) (N o67 (N o83 (H o118) (H o156)) (J o64 (H o137))))) (N boot_o_5 (N boot_o_9 t28 (N o65 (N o81 (H o43) (H o43)) (J o97 (H o43)))) (N o45 (N o57 t49 (J o93 (H o128))) (N o69 (N o85 (H o120) (H o158)) t8)))) (N o98 (N boot_o_4 (N boot_o_8 t33 (N o64 (N o43 (H o115) (H o153)) (J o96 (H o134)))) (N o145 (N o56 (N o76 (H o111) (H o149)) (J o44 (H o127))) (N o68 (N o84 (H o43) (H o157)) (J o103 (H o138))))) (N boot_o_6 (N boot_o_10 (N o43 (N o74 (H o43) (H o132)) (J o90 (H o146))) (N o43 (N o82 (H o44) (H o155)) (J o101 (H o44)))) (N o46 (N o58 (N o44 (H o113) (H o44)) (J o43 (H o132))) t44)))
def t56:U:=N o106 (H o178) (H o44)
def t57:U:=N o44 t56 (N o141 (H o210) (H o274))
def t58:U:=N o122 (H o43) (H o43)
def t60:U:=N o152 (H o218) (H o282)
def t61:U:=J o44 (H o43)
def t62:U:=N o43 (N o79 (N o114 (H o186) (H o250)) t60) (N o95 (N o64 (H o202) (H o266)) t61)
def t63:U:=N o44 (H o182) (H o246)
def t64:U:=N o75 t63 (N o64 (H o214) (H o278))
def t65:U:=N o126 (H o43) (H o43)
def t67:U:=N o156 (H o43) (H o286)
def t69:U:=N o67 (N o83 (N o118 (H o190) (H o254)) t67) (N o64 (N o137 (H o44) (H o44)) (J o174 (H o238)))
def t70:U:=N o108 (H o180) (H o43)
def t71:U:=N o43 t70 (N o143 (H o43) (H o43))
def t72:U:=N o124 (H o196) (H o260)
def t73:U:=J o43 (H o44)
def t74:U:=N o43 (H o44) (H o284)
def t76:U:=N o65 (N o81 (N o43 (H o188) (H o252)) t74) (N o97 (N o43 (H o204) (H o268)) (J o43 (H o236)))
def t78:U:=N o158 (H o224) (H o288)
def t80:U:=N o45 (N o57 (N o43 t49 (N o43 (H o216) (H o280))) (N o93 (N o128 (H o200) (H o264)) (J o168 (H o232)))) (N o69 (N o85 (N o120 (H o44) (H o44)) t78) (N o43 t49 (J o43 (H o240))))
def t81:U:=N o107 (H o43) (H o243)
def t82:U:=N o72 t81 (N o142 (H o211) (H o275))
def t83:U:=N o123 (H o195) (H o259)
def t84:U:=N o153 (H o43) (H o283)
def t86:U:=N o64 (N o43 (N o115 (H o43) (H o43)) t84) (N o96 (N o134 (H o203) (H o267)) (J o171 (H o44)))
def t87:U:=N o111 (H o183) (H o247)
def t88:U:=N o76 t87 (N o149 (H o43) (H o43))
def t89:U:=N o127 (H o44) (H o44)
def t91:U:=N o157 (H o223) (H o287)
def t93:U:=N o68 (N o84 t49 t91) (N o103 (N o138 (H o207) (H o271)) (J o175 (H o239)))
def t94:U:=N o160 (N o56 t88 (N o44 t89 (J o167 (H o231)))) t93
def t95:U:=N o43 (H o181) (H o245)
def t96:U:=N o74 t95 (N o132 (H o44) (H o44))
def t97:U:=N o146 (H o197) (H o261)
def t98:U:=N o155 (H o221) (H o285)
def t99:U:=N o44 (H o43) (H o43)
def t101:U:=N o43 (N o82 (N o44 (H o189) (H o253)) t98) (N o101 t99 (J o173 (H o43)))
def t102:U:=N o44 (H o217) (H o281)
def t104:U:=N o43 (H o225) (H o289)
def t105:U:=N o46 (N o58 (N o44 (N o113 (H o44) (H o44)) t102) (N o43 (N o132 (H o43) (H o43)) (J o43 (H o233)))) (N o43 (N o86 (N o121 (H o193) (H o257)) t104) (N o105 (N o140 (H o209) (H o273)) t61))
def tree_289:U:=N boot_o_0 (N boot_o_1 (N o159 (N boot_o_7 (N o43 t57 (N o87 t58 (J o64 (H o226)))) t62) (N o43 (N o55 t64 (N o43 t65 (J o166 (H o43)))) t69)) (N boot_o_5 (N boot_o_9 (N o53 t71 (N o89 t72 t73)) t76) t80)) (N o98 (N boot_o_4 (N boot_o_8 (N o44 t82 (N o88 t83 (J o163 (H o43)))) t86) t94) (N boot_o_6 (N boot_o_10 (N o43 t96 (N o90 t97 (J o165 (H o229)))) t101) t105))
def tree_377:U:=N boot_o_0 (N boot_o_1 (N o144 (N boot_o_7 (N o43 (N o44 t56 (J o141 (H o210))) (N o87 (J o122 (H o43)) (J o64 (H o226)))) (N o43 (N o79 (J o114 (H o186)) (J o152 (H o218))) (N o95 (J o64 (H o202)) t61))) (N o43 (N o55 (N o75 t63 (J o64 (H o214))) (N o43 (J o126 (H o43)) (J o166 (H o43)))) (N o67 (N o83 (J o118 (H o190)) (J o156 (H o43))) (N o64 (J o137 (H o44)) (J o174 (H o238)))))) (N boot_o_5 (N boot_o_9 (N o53 (N o43 t70 (J o143 (H o43))) (N o89 (J o124 (H o196)) t73)) (N o65 (N o81 (J o43 (H o188)) t73) (N o97 (J o43 (H o204)) (J o43 (H o236))))) (N o45 (N o57 (N o43 t8 (J o43 (H o216))) (N o93 (J o128 (H o200)) (J o168 (H o232)))) (N o69 (N o85 (J o120 (H o44)) (J o158 (H o224))) (N o43 t8 (J o43 (H o240))))))) (N o98 (N boot_o_4 (N boot_o_8 (N o44 (N o72 t81 (J o142 (H o211))) (N o88 (J o123 (H o195)) (J o293 (H o43)))) (N o64 (N o43 (J o115 (H o43)) (J o153 (H o43))) (N o96 (J o134 (H o203)) (J o171 (H o44))))) (N o160 (N o56 (N o76 t87 (J o149 (H o43))) (N o44 (J o127 (H o44)) (J o167 (H o231)))) (N o68 (N o84 t8 (J o157 (H o223))) (N o103 (J o138 (H o207)) (J o175 (H o239)))))) (N boot_o_6 (N boot_o_10 (N o43 (N o74 t95 (J o132 (H o44))) (N o90 (J o146 (H o197)) (J o295 (H o229)))) (N o43 (N o82 (J o44 (H o189)) (J o155 (H o221))) (N o101 t61 (J o173 (H o43))))) (N o46 (N o58 (N o44 (J o113 (H o44)) (J o44 (H o217))) (N o43 (J o132 (H o43)) (J o43 (H o233)))) (N o43 (N o86 (J o121 (H o193)) (J o43 (H o225))) (N o105 (J o140 (H o209)) t61)))))
def t117:U:=N o64 (H o226) (H o382)
def t118:U:=N boot_o_7 (N o43 t57 (N o87 t58 t117)) t62
def t119:U:=N o166 (H o43) (H o386)
def t120:U:=N o43 (N o55 t64 (N o43 t65 t119)) t69
def t121:U:=N o43 (H o44) (H o384)
def t122:U:=N boot_o_5 (N boot_o_9 (N o53 t71 (N o89 t72 t121)) t76) t80
def t123:U:=N o163 (H o43) (H o383)
def t124:U:=N boot_o_8 (N o44 t82 (N o88 t83 t123)) t86
def t125:U:=N o165 (H o229) (H o385)
def t126:U:=N boot_o_6 (N boot_o_10 (N o43 t96 (N o90 t97 t125)) t101) t105
def tree_386:U:=N boot_o_0 (N boot_o_1 (N o381 t118 t120) t122) (N o98 (N boot_o_4 t124 t94) t126)
def t127:U:=N o167 (H o231) (H o390)
def tree_390:U:=N boot_o_0 (N boot_o_1 (N o389 t118 t120) t122) (N o98 (N boot_o_4 t124 (N o160 (N o56 t88 (N o44 t89 t127)) t93)) t126)
def tree_443:U:=N boot_o_0 (N boot_o_1 (N o393 (N boot_o_7 (N o43 (N o44 (N o106 (J o178 (H o43)) (H o44)) (N o141 (J o210 (H o43)) (H o274))) (N o87 (N o122 (J o43 (H o421)) (H o43)) t117)) (N o43 (N o79 (N o114 (J o186 (H o413)) (H o250)) t60) (N o95 (N o64 (J o202 (H o429)) (H o266)) (N o44 (H o43) (H o397))))) (N o43 (N o55 (N o75 (N o44 (J o182 (H o409)) (H o246)) (N o64 (J o214 (H o441)) (H o278))) (N o43 (N o126 (J o43 (H o425)) (H o43)) t119)) (N o67 (N o83 (N o118 (J o190 (H o44)) (H o254)) t67) (N o64 (N o137 t61 (H o44)) (N o174 (H o238) (H o401)))))) (N boot_o_5 (N boot_o_9 (N o53 (N o43 (N o108 (J o180 (H o407)) (H o43)) (N o143 (J o43 (H o439)) (H o43))) (N o89 (N o124 (J o196 (H o43)) (H o260)) t121)) (N o65 (N o81 (N o43 (J o188 (H o415)) (H o252)) t74) (N o97 (N o43 (J o204 (H o44)) (H o268)) (N o43 (H o236) (H o399))))) (N o45 (N o57 (N o43 (N o43 (J o43 (H o411)) (H o43)) (N o43 (J o216 (H o443)) (H o280))) (N o93 (N o128 (J o200 (H o427)) (H o264)) (N o168 (H o232) (H o43)))) (N o69 (N o85 (N o120 t61 (H o44)) t78) (N o43 (N o43 (J o43 (H o435)) (H o43)) (N o43 (H o240) (H o44))))))) (N o98 (N boot_o_4 (N boot_o_8 (N o44 (N o72 (N o107 (J o43 (H o406)) (H o243)) (N o142 (J o211 (H o44)) (H o275))) (N o88 (N o123 (J o195 (H o422)) (H o259)) t123)) (N o64 (N o43 (N o115 (J o43 (H o414)) (H o43)) t84) (N o96 (N o134 (J o203 (H o43)) (H o267)) (N o171 (H o44) (H o43))))) (N o394 (N o56 (N o76 (N o111 (J o183 (H o410)) (H o247)) (N o149 (J o43 (H o442)) (H o43))) (N o44 (N o127 t61 (H o44)) t127)) (N o68 (N o84 (N o43 (J o43 (H o418)) (H o43)) t91) (N o103 (N o138 (J o207 (H o434)) (H o271)) (N o175 (H o239) (H o43)))))) (N boot_o_6 (N boot_o_10 (N o43 (N o74 (N o43 (J o181 (H o408)) (H o245)) (N o132 t61 (H o44))) (N o90 (N o146 (J o197 (H o44)) (H o261)) t125)) (N o43 (N o82 (N o44 (J o189 (H o43)) (H o253)) t98) (N o101 (N o44 (J o43 (H o432)) (H o43)) (N o173 (H o43) (H o400))))) (N o46 (N o58 (N o44 (N o113 (J o44 (H o412)) (H o44)) t102) (N o43 (N o132 (J o43 (H o428)) (H o43)) (N o43 (H o233) (H o64)))) (N o43 (N o86 (N o121 (J o193 (H o420)) (H o257)) t104) (N o105 (N o140 (J o209 (H o436)) (H o273)) (N o44 (H o43) (H o404)))))))
def t163:U:=N o44 (H o471) (H o599)
def t164:U:=N o210 (H o43) (H o44)
def t167:U:=N o226 (H o455) (H o43)
def t170:U:=N o218 (H o64) (H o575)
def t172:U:=N o202 (H o429) (H o43)
def t174:U:=N o43 (H o43) (H o591)
def t177:U:=N o214 (H o441) (H o571)
def t179:U:=N o43 (H o425) (H o43)
def t181:U:=N o43 (H o459) (H o43)
def t184:U:=N o43 (H o451) (H o579)
def t186:U:=N o44 (H o43) (H o563)
def t187:U:=N o238 (H o43) (H o595)
def t189:U:=N o43 (H o439) (H o43)
def t191:U:=N o196 (H o43) (H o44)
def t193:U:=N o44 (H o457) (H o585)
def t196:U:=N o44 (H o43) (H o577)
def t198:U:=N o204 (H o44) (H o561)
def t200:U:=N o236 (H o465) (H o593)
def t202:U:=N o216 (H o443) (H o43)
def t204:U:=N o200 (H o427) (H o557)
def t206:U:=N o232 (H o44) (H o589)
def t208:U:=N o224 (H o43) (H o44)
def t210:U:=N o43 (H o435) (H o565)
def t212:U:=N o240 (H o469) (H o597)
def t213:U:=N o243 (H o472) (H o600)
def t214:U:=N o211 (H o44) (H o568)
def t216:U:=N o195 (H o422) (H o43)
def t218:U:=N o43 (H o43) (H o584)
def t221:U:=N o43 (H o448) (H o43)
def t223:U:=N o203 (H o43) (H o44)
def t225:U:=N o44 (H o464) (H o592)
def t228:U:=N o43 (H o442) (H o572)
def t230:U:=N o44 (H o43) (H o556)
def t231:U:=N o231 (H o43) (H o44)
def t233:U:=N o223 (H o452) (H o43)
def t235:U:=N o207 (H o434) (H o564)
def t237:U:=N o239 (H o44) (H o596)
def t239:U:=N o44 (H o43) (H o570)
def t240:U:=N o197 (H o44) (H o554)
def t242:U:=N o229 (H o458) (H o586)
def t245:U:=N o221 (H o450) (H o578)
def t247:U:=N o43 (H o432) (H o43)
def t249:U:=N o43 (H o466) (H o594)
def t252:U:=N o217 (H o43) (H o44)
def t254:U:=N o43 (H o428) (H o558)
def t256:U:=N o233 (H o462) (H o43)
def t259:U:=N o225 (H o44) (H o582)
def t261:U:=N o209 (H o436) (H o43)
def t263:U:=N o43 (H o43) (H o598)
def tree_600:U:=N boot_o_0 (N boot_o_1 (N o444 (N boot_o_7 (N o43 (N o44 (N o106 (N o178 (H o43) (H o535)) t163) (N o141 t164 (J o274 (H o43)))) (N o87 (N o122 (N o43 (H o421) (H o551)) (J o43 (H o487))) (N o64 t167 (J o382 (H o519))))) (N o43 (N o79 (N o114 (N o186 (H o413) (H o543)) (J o250 (H o479))) (N o152 t170 (J o282 (H o44)))) (N o95 (N o64 t172 (J o266 (H o495))) (N o44 t174 (J o397 (H o43)))))) (N o43 (N o55 (N o75 (N o44 (N o182 (H o409) (H o44)) (J o246 (H o44))) (N o64 t177 (J o278 (H o507)))) (N o43 (N o126 t179 (J o43 (H o491))) (N o166 t181 (J o386 (H o523))))) (N o67 (N o83 (N o118 (N o190 (H o44) (H o547)) (J o254 (H o483))) (N o156 t184 (J o286 (H o515)))) (N o64 (N o137 t186 t61) (N o174 t187 (J o401 (H o43))))))) (N boot_o_5 (N boot_o_9 (N o53 (N o43 (N o108 (N o180 (H o407) (H o537)) (J o43 (H o473))) (N o143 t189 (J o43 (H o505)))) (N o89 (N o124 t191 (J o260 (H o43))) (N o43 t193 (J o384 (H o521))))) (N o65 (N o81 (N o43 (N o188 (H o415) (H o43)) (J o252 (H o43))) (N o43 t196 (J o284 (H o43)))) (N o97 (N o43 t198 (J o268 (H o44))) (N o43 t200 (J o399 (H o529)))))) (N o45 (N o57 (N o43 (N o43 (N o43 (H o411) (H o43)) t8) (N o43 t202 (J o280 (H o509)))) (N o93 (N o128 t204 (J o264 (H o493))) (N o168 t206 t73))) (N o69 (N o85 (N o120 (N o44 (H o43) (H o549)) (J o44 (H o485))) (N o158 t208 (J o288 (H o43)))) (N o43 (N o43 t210 (J o43 (H o501))) (N o43 t212 (J o44 (H o533)))))))) (N o98 (N boot_o_4 (N boot_o_8 (N o44 (N o72 (N o107 (N o43 (H o406) (H o536)) t213) (N o142 t214 (J o275 (H o44)))) (N o88 (N o123 t216 (J o259 (H o488))) (N o163 t218 (J o383 (H o43))))) (N o64 (N o43 (N o115 (N o43 (H o414) (H o544)) (J o43 (H o480))) (N o153 t221 (J o283 (H o512)))) (N o96 (N o134 t223 (J o267 (H o43))) (N o171 t225 (J o43 (H o528)))))) (N o445 (N o56 (N o76 (N o111 (N o183 (H o410) (H o540)) (J o247 (H o476))) (N o149 t228 (J o43 (H o508)))) (N o44 (N o127 t230 t61) (N o167 t231 (J o390 (H o43))))) (N o68 (N o84 (N o43 (N o43 (H o418) (H o43)) t8) (N o157 t233 (J o287 (H o516)))) (N o103 (N o138 t235 (J o271 (H o500))) (N o175 t237 t73))))) (N boot_o_6 (N boot_o_10 (N o43 (N o74 (N o43 (N o181 (H o408) (H o43)) (J o245 (H o43))) (N o132 t239 t61)) (N o90 (N o146 t240 (J o261 (H o44))) (N o165 t242 (J o385 (H o522))))) (N o43 (N o82 (N o44 (N o189 (H o43) (H o44)) (J o253 (H o44))) (N o155 t245 (J o285 (H o514)))) (N o101 (N o44 t247 (J o43 (H o498))) (N o173 t249 (J o400 (H o530)))))) (N o46 (N o58 (N o44 (N o113 (N o44 (H o412) (H o542)) (J o44 (H o478))) (N o44 t252 (J o281 (H o43)))) (N o43 (N o132 t254 (J o43 (H o494))) (N o43 t256 (J o64 (H o526))))) (N o43 (N o86 (N o121 (N o193 (H o420) (H o550)) (J o257 (H o486))) (N o43 t259 (J o289 (H o44)))) (N o105 (N o140 t261 (J o273 (H o502))) (N o44 t263 (J o404 (H o43))))))))
def tree_686:U:=N boot_o_0 (N boot_o_1 (N o393 (N boot_o_7 (N o43 (N o44 (N o106 (J o178 (H o43)) (J o44 (H o471))) (N o141 (J o210 (H o43)) (J o274 (H o43)))) (N o87 (N o122 (J o43 (H o421)) (J o43 (H o487))) (N o64 (J o226 (H o455)) (J o382 (H o519))))) (N o43 (N o79 (N o114 (J o186 (H o413)) (J o250 (H o479))) (N o152 (J o218 (H o64)) (J o282 (H o44)))) (N o95 (N o64 (J o202 (H o429)) (J o266 (H o495))) (N o44 t8 (J o397 (H o43)))))) (N o43 (N o55 (N o75 (N o44 (J o182 (H o409)) (J o246 (H o44))) (N o64 (J o214 (H o441)) (J o278 (H o507)))) (N o43 (N o126 (J o43 (H o425)) (J o43 (H o491))) (N o166 (J o43 (H o459)) (J o386 (H o523))))) (N o67 (N o83 (N o118 (J o190 (H o44)) (J o254 (H o483))) (N o156 (J o43 (H o451)) (J o286 (H o515)))) (N o64 (N o137 t61 t61) (N o174 (J o238 (H o43)) (H o401)))))) (N boot_o_5 (N boot_o_9 (N o53 (N o43 (N o108 (J o180 (H o407)) (J o43 (H o473))) (N o143 (J o43 (H o439)) (J o43 (H o505)))) (N o89 (N o124 (J o196 (H o43)) (J o260 (H o43))) (N o43 (J o44 (H o457)) (J o384 (H o521))))) (N o65 (N o81 (N o43 (J o188 (H o415)) (J o252 (H o43))) (N o43 t61 (J o284 (H o43)))) (N o97 (N o43 (J o204 (H o44)) (J o268 (H o44))) (N o43 (J o236 (H o465)) (J o399 (H o529)))))) (N o45 (N o57 (N o43 (N o43 (J o43 (H o411)) t8) (N o43 (J o216 (H o443)) (J o280 (H o509)))) (N o93 (N o128 (J o200 (H o427)) (J o264 (H o493))) (N o168 (J o232 (H o44)) t73))) (N o69 (N o85 (N o120 t61 (J o44 (H o485))) (N o158 (J o224 (H o43)) (J o288 (H o43)))) (N o43 (N o43 (J o43 (H o435)) (J o43 (H o501))) (N o43 (J o240 (H o469)) (H o44))))))) (N o98 (N boot_o_4 (N boot_o_8 (N o44 (N o72 (N o107 (J o43 (H o406)) (J o243 (H o472))) (N o142 (J o211 (H o44)) (J o275 (H o44)))) (N o88 (N o123 (J o195 (H o422)) (J o259 (H o488))) (N o163 t8 (J o383 (H o43))))) (N o64 (N o43 (N o115 (J o43 (H o414)) (J o43 (H o480))) (N o153 (J o43 (H o604)) (J o283 (H o512)))) (N o96 (N o134 (J o203 (H o43)) (J o267 (H o43))) (N o171 (J o44 (H o464)) (J o43 (H o528)))))) (N o445 (N o56 (N o76 (N o111 (J o183 (H o410)) (J o247 (H o476))) (N o149 (J o43 (H o442)) (J o43 (H o508)))) (N o44 (N o127 t61 t61) (N o167 (J o231 (H o43)) (J o390 (H o43))))) (N o68 (N o84 (N o43 (J o43 (H o418)) t8) (N o157 (J o223 (H o452)) (J o287 (H o516)))) (N o103 (N o138 (J o207 (H o434)) (J o271 (H o500))) (N o175 (J o239 (H o44)) (H o43)))))) (N boot_o_6 (N boot_o_10 (N o43 (N o74 (N o43 (J o181 (H o408)) (J o245 (H o43))) (N o132 t61 t61)) (N o90 (N o146 (J o197 (H o44)) (J o261 (H o44))) (N o165 (J o229 (H o458)) (J o385 (H o522))))) (N o43 (N o82 (N o44 (J o189 (H o43)) (J o253 (H o44))) (N o155 (J o221 (H o606)) (J o285 (H o514)))) (N o101 (N o44 (J o43 (H o432)) (J o43 (H o498))) (N o173 (J o43 (H o466)) (J o400 (H o530)))))) (N o46 (N o58 (N o44 (N o113 (J o44 (H o412)) (J o44 (H o478))) (N o44 (J o217 (H o43)) (J o281 (H o43)))) (N o43 (N o132 (J o43 (H o428)) (J o43 (H o494))) (N o43 (J o233 (H o462)) (J o64 (H o526))))) (N o43 (N o86 (N o121 (J o193 (H o420)) (J o257 (H o486))) (N o43 (J o225 (H o44)) (J o289 (H o44)))) (N o105 (N o140 (J o209 (H o436)) (J o273 (H o502))) (N o44 t8 (H o404)))))))
def t352:U:=N o178 (J o43 (H o754)) (H o535)
def t354:U:=N o43 (J o421 (H o770)) (H o551)
def t355:U:=N o382 (H o519) (H o738)
def t357:U:=N o186 (J o413 (H o762)) (H o543)
def t358:U:=N o397 (H o43) (H o43)
def t360:U:=N o182 (J o409 (H o44)) (H o44)
def t361:U:=N o386 (H o523) (H o742)
def t363:U:=N o190 (J o44 (H o766)) (H o547)
def t364:U:=N o286 (H o515) (H o734)
def t365:U:=N o401 (H o43) (H o43)
def t367:U:=N o180 (J o407 (H o756)) (H o537)
def t368:U:=N o384 (H o521) (H o740)
def t370:U:=N o188 (J o415 (H o43)) (H o43)
def t371:U:=N o399 (H o529) (H o748)
def t373:U:=N o43 (J o411 (H o43)) (H o43)
def t374:U:=N o43 (H o44) (H o44)
def t376:U:=N o44 (J o43 (H o768)) (H o549)
def t377:U:=N o288 (H o43) (H o43)
def t378:U:=N o44 (H o533) (H o752)
def t380:U:=N o43 (J o406 (H o755)) (H o536)
def t381:U:=N o383 (H o43) (H o43)
def t383:U:=N o43 (J o414 (H o763)) (H o544)
def t384:U:=N o43 (H o528) (H o747)
def t386:U:=N o183 (J o410 (H o759)) (H o540)
def t387:U:=N o390 (H o43) (H o43)
def t389:U:=N o43 (J o418 (H o43)) (H o43)
def t390:U:=N o287 (H o516) (H o735)
def t392:U:=N o181 (J o408 (H o43)) (H o43)
def t393:U:=N o385 (H o522) (H o741)
def t395:U:=N o400 (H o530) (H o749)
def t397:U:=N o44 (J o412 (H o761)) (H o542)
def t398:U:=N o64 (H o526) (H o745)
def t400:U:=N o193 (J o420 (H o769)) (H o550)
def t401:U:=N o289 (H o44) (H o44)
def t402:U:=N o404 (H o43) (H o43)
def tree_770:U:=N boot_o_0 (N boot_o_1 (N o690 (N boot_o_7 (N o43 (N o44 (N o106 t352 t163) (N o141 t164 (N o274 (H o43) (H o43)))) (N o87 (N o122 t354 (N o43 (H o487) (H o706))) (N o64 t167 t355))) (N o43 (N o79 (N o114 t357 (N o250 (H o479) (H o698))) (N o152 t170 (N o282 (H o44) (H o44)))) (N o95 (N o64 t172 (N o266 (H o495) (H o714))) (N o44 t174 t358)))) (N o43 (N o55 (N o75 (N o44 t360 (N o246 (H o44) (H o694))) (N o64 t177 (N o278 (H o507) (H o726)))) (N o43 (N o126 t179 (N o43 (H o491) (H o710))) (N o166 t181 t361))) (N o67 (N o83 (N o118 t363 (N o254 (H o483) (H o43))) (N o156 t184 t364)) (N o64 (N o137 t186 t99) (N o174 t187 t365))))) (N boot_o_5 (N boot_o_9 (N o53 (N o43 (N o108 t367 (N o43 (H o473) (H o43))) (N o143 t189 (N o43 (H o505) (H o724)))) (N o89 (N o124 t191 (N o260 (H o43) (H o43))) (N o43 t193 t368))) (N o65 (N o81 (N o43 t370 (N o252 (H o43) (H o44))) (N o43 t196 (N o284 (H o43) (H o43)))) (N o97 (N o43 t198 (N o268 (H o44) (H o44))) (N o43 t200 t371)))) (N o45 (N o57 (N o43 (N o43 t373 (N o43 (H o43) (H o696))) (N o43 t202 (N o280 (H o509) (H o728)))) (N o93 (N o128 t204 (N o264 (H o493) (H o712))) (N o168 t206 t374))) (N o69 (N o85 (N o120 t376 (N o44 (H o485) (H o704))) (N o158 t208 t377)) (N o43 (N o43 t210 (N o43 (H o501) (H o720))) (N o43 t212 t378)))))) (N o98 (N boot_o_4 (N boot_o_8 (N o44 (N o72 (N o107 t380 t213) (N o142 t214 (N o275 (H o44) (H o44)))) (N o88 (N o123 t216 (N o259 (H o488) (H o707))) (N o163 t218 t381))) (N o64 (N o43 (N o115 t383 (N o43 (H o480) (H o43))) (N o153 t221 (N o283 (H o512) (H o731)))) (N o96 (N o134 t223 (N o267 (H o43) (H o43))) (N o171 t225 t384)))) (N o691 (N o56 (N o76 (N o111 t386 (N o247 (H o476) (H o43))) (N o149 t228 (N o43 (H o508) (H o727)))) (N o44 (N o127 t230 t99) (N o167 t231 t387))) (N o68 (N o84 (N o43 t389 (N o43 (H o43) (H o703))) (N o157 t233 t390)) (N o103 (N o138 t235 (N o271 (H o500) (H o719))) (N o175 t237 t374))))) (N boot_o_6 (N boot_o_10 (N o43 (N o74 (N o43 t392 (N o245 (H o43) (H o44))) (N o132 t239 t99)) (N o90 (N o146 t240 (N o261 (H o44) (H o44))) (N o165 t242 t393))) (N o43 (N o82 (N o44 (N o189 t73 (H o44)) (N o253 (H o44) (H o701))) (N o155 t245 (N o285 (H o514) (H o733)))) (N o101 (N o44 t247 (N o43 (H o498) (H o717))) (N o173 t249 t395)))) (N o46 (N o58 (N o44 (N o113 t397 (N o44 (H o478) (H o697))) (N o44 t252 (N o281 (H o43) (H o43)))) (N o43 (N o132 t254 (N o43 (H o494) (H o713))) (N o43 t256 t398))) (N o43 (N o86 (N o121 t400 (N o257 (H o486) (H o705))) (N o43 t259 t401)) (N o105 (N o140 t261 (N o273 (H o502) (H o721))) (N o44 t263 t402))))))
def t404:U:=N o44 (J o471 (H o820)) (H o599)
def t406:U:=N o274 (J o43 (H o852)) (H o43)
def t407:U:=N o44 (N o106 t352 t404) (N o141 (N o210 t73 (H o44)) t406)
def t409:U:=N o43 (J o487 (H o43)) (H o706)
def t412:U:=N o226 (J o455 (H o43)) (H o43)
def t414:U:=N o250 (J o479 (H o828)) (H o698)
def t417:U:=N o79 (N o114 t357 t414) (N o152 (N o218 (J o64 (H o796)) (H o575)) (N o282 t61 (H o44)))
def t420:U:=N o266 (J o495 (H o44)) (H o714)
def t421:U:=N o64 (N o202 (J o429 (H o43)) (H o43)) t420
def t423:U:=N o43 (J o43 (H o812)) (H o591)
def t425:U:=N o246 (J o44 (H o824)) (H o694)
def t428:U:=N o278 (J o507 (H o856)) (H o726)
def t429:U:=N o75 (N o44 t360 t425) (N o64 (N o214 (J o441 (H o792)) (H o571)) t428)
def t432:U:=N o43 (J o491 (H o840)) (H o710)
def t433:U:=N o126 (N o43 (J o425 (H o43)) (H o43)) t432
def t435:U:=N o43 (J o459 (H o43)) (H o43)
def t437:U:=N o254 (J o483 (H o43)) (H o43)
def t440:U:=N o43 (J o451 (H o800)) (H o579)
def t443:U:=N o44 (J o43 (H o848)) (H o43)
def t445:U:=N o64 (N o137 (N o44 (J o43 (H o784)) (H o563)) t443) (N o174 (N o238 t73 (H o595)) t365)
def t447:U:=N o43 (J o473 (H o43)) (H o43)
def t450:U:=N o43 (J o505 (H o854)) (H o724)
def t451:U:=N o43 (N o108 t367 t447) (N o143 (N o43 (J o439 (H o43)) (H o43)) t450)
def t453:U:=N o260 (J o43 (H o838)) (H o43)
def t454:U:=N o124 (N o196 t73 (H o44)) t453
def t456:U:=N o44 (J o457 (H o806)) (H o585)
def t460:U:=N o284 (J o43 (H o862)) (H o43)
def t464:U:=N o236 (J o465 (H o814)) (H o593)
def t465:U:=N o65 (N o81 (N o43 t370 (N o252 t73 (H o44))) (N o43 (N o44 (J o43 (H o798)) (H o577)) t460)) (N o97 (N o43 (N o204 (J o44 (H o782)) (H o561)) (N o268 t61 (H o44))) (N o43 t464 t371))
def t467:U:=N o43 (J o43 (H o826)) (H o696)
def t470:U:=N o280 (J o509 (H o44)) (H o728)
def t471:U:=N o43 (N o43 t373 t467) (N o43 (N o216 (J o443 (H o43)) (H o43)) t470)
def t474:U:=N o264 (J o493 (H o842)) (H o712)
def t475:U:=N o128 (N o200 (J o427 (H o778)) (H o557)) t474
def t477:U:=N o232 (J o44 (H o810)) (H o589)
def t479:U:=N o44 (J o485 (H o834)) (H o704)
def t484:U:=N o43 (J o501 (H o43)) (H o720)
def t486:U:=N o240 (J o469 (H o43)) (H o597)
def t487:U:=N o43 (N o43 (N o43 (J o435 (H o786)) (H o565)) t484) (N o43 t486 t378)
def t489:U:=N o243 (J o472 (H o821)) (H o600)
def t492:U:=N o72 (N o107 t380 t489) (N o142 (N o211 (J o44 (H o789)) (H o568)) (N o275 t61 (H o44)))
def t495:U:=N o259 (J o488 (H o44)) (H o707)
def t496:U:=N o123 (N o195 (J o422 (H o43)) (H o43)) t495
def t498:U:=N o43 (J o43 (H o805)) (H o584)
def t500:U:=N o43 (J o480 (H o43)) (H o43)
def t503:U:=N o283 (J o512 (H o861)) (H o731)
def t504:U:=N o43 (N o115 t383 t500) (N o153 (N o43 (J o448 (H o43)) (H o43)) t503)
def t506:U:=N o267 (J o43 (H o845)) (H o43)
def t507:U:=N o134 (N o203 t73 (H o44)) t506
def t509:U:=N o44 (J o464 (H o813)) (H o592)
def t511:U:=N o247 (J o476 (H o43)) (H o43)
def t514:U:=N o43 (J o508 (H o43)) (H o727)
def t515:U:=N o76 (N o111 t386 t511) (N o149 (N o43 (J o442 (H o793)) (H o572)) t514)
def t518:U:=N o44 (J o43 (H o841)) (H o43)
def t519:U:=N o127 (N o44 (J o43 (H o777)) (H o556)) t518
def t522:U:=N o43 (J o43 (H o833)) (H o703)
def t525:U:=N o223 (J o452 (H o43)) (H o43)
def t528:U:=N o271 (J o500 (H o849)) (H o719)
def t530:U:=N o239 (J o44 (H o817)) (H o596)
def t531:U:=N o103 (N o138 (N o207 (J o434 (H o785)) (H o564)) t528) (N o175 t530 t374)
def t535:U:=N o44 (J o43 (H o855)) (H o43)
def t536:U:=N o74 (N o43 t392 (N o245 t73 (H o44))) (N o132 (N o44 (J o43 (H o791)) (H o570)) t535)
def t539:U:=N o146 (N o197 (J o44 (H o775)) (H o554)) (N o261 t61 (H o44))
def t541:U:=N o229 (J o458 (H o807)) (H o586)
def t544:U:=N o253 (J o44 (H o831)) (H o701)
def t547:U:=N o285 (J o514 (H o863)) (H o733)
def t550:U:=N o43 (J o498 (H o847)) (H o717)
def t552:U:=N o43 (J o466 (H o43)) (H o594)
def t553:U:=N o43 (N o82 (N o44 (N o189 t73 (H o44)) t544) (N o155 (N o221 (J o450 (H o799)) (H o578)) t547)) (N o101 (N o44 (N o43 (J o432 (H o43)) (H o43)) t550) (N o173 t552 t395))
def t555:U:=N o44 (J o478 (H o827)) (H o697)
def t557:U:=N o281 (J o43 (H o859)) (H o43)
def t558:U:=N o44 (N o113 t397 t555) (N o44 (N o217 t73 (H o44)) t557)
def t561:U:=N o43 (J o494 (H o43)) (H o713)
def t562:U:=N o132 (N o43 (J o428 (H o779)) (H o558)) t561
def t564:U:=N o233 (J o462 (H o43)) (H o43)
def t566:U:=N o257 (J o486 (H o835)) (H o705)
def t569:U:=N o225 (J o44 (H o803)) (H o582)
def t572:U:=N o273 (J o502 (H o44)) (H o721)
def t574:U:=N o43 (J o43 (H o819)) (H o598)
def t575:U:=N o105 (N o140 (N o209 (J o436 (H o43)) (H o43)) t572) (N o44 t574 t402)
def tree_863:U:=N boot_o_0 (N boot_o_1 (N o771 (N boot_o_7 (N o43 t407 (N o87 (N o122 t354 t409) (N o64 t412 t355))) (N o43 t417 (N o95 t421 (N o44 t423 t358)))) (N o43 (N o55 t429 (N o43 t433 (N o166 t435 t361))) (N o67 (N o83 (N o118 t363 t437) (N o156 t440 t364)) t445))) (N boot_o_5 (N boot_o_9 (N o53 t451 (N o89 t454 (N o43 t456 t368))) t465) (N o45 (N o57 t471 (N o93 t475 (N o168 t477 t374))) (N o69 (N o85 (N o120 t376 t479) (N o158 (N o224 t73 (H o44)) t377)) t487)))) (N o98 (N boot_o_4 (N boot_o_8 (N o44 t492 (N o88 t496 (N o163 t498 t381))) (N o64 t504 (N o96 t507 (N o171 t509 t384)))) (N o772 (N o56 t515 (N o44 t519 (N o167 (N o231 t73 (H o44)) t387))) (N o68 (N o84 (N o43 t389 t522) (N o157 t525 t390)) t531))) (N boot_o_6 (N boot_o_10 (N o43 t536 (N o90 t539 (N o165 t541 t393))) t553) (N o46 (N o58 t558 (N o43 t562 (N o43 t564 t398))) (N o43 (N o86 (N o121 t400 t566) (N o43 t569 t401)) t575))))
def t578:U:=N o382 (J o519 (H o870)) (H o738)
def t580:U:=N o44 t423 (N o397 (J o43 (H o878)) (H o43))
def t582:U:=N o166 t435 (N o386 (J o523 (H o44)) (H o742))
def t585:U:=N o286 (J o515 (H o43)) (H o734)
def t587:U:=N o43 t456 (N o384 (J o521 (H o872)) (H o740))
def t589:U:=N o168 t477 (N o43 t61 (H o44))
def t593:U:=N o288 (J o43 (H o868)) (H o43)
def t595:U:=N o383 (J o43 (H o871)) (H o43)
def t597:U:=N o171 t509 (N o43 (J o528 (H o879)) (H o747))
def t600:U:=N o167 (N o231 t73 (H o44)) (N o390 (J o43 (H o875)) (H o43))
def t603:U:=N o287 (J o516 (H o44)) (H o735)
def t605:U:=N o165 t541 (N o385 (J o522 (H o43)) (H o741))
def t607:U:=N o43 t564 (N o64 (J o526 (H o877)) (H o745))
def tree_879:U:=N boot_o_0 (N boot_o_1 (N o864 (N boot_o_7 (N o43 t407 (N o87 (N o122 t354 t409) (N o64 t412 t578))) (N o43 t417 (N o95 t421 t580))) (N o43 (N o55 t429 (N o43 t433 t582)) (N o67 (N o83 (N o118 t363 t437) (N o156 t440 t585)) t445))) (N boot_o_5 (N boot_o_9 (N o53 t451 (N o89 t454 t587)) t465) (N o45 (N o57 t471 (N o93 t475 t589)) (N o69 (N o85 (N o120 t376 t479) (N o158 (N o224 t73 (H o44)) t593)) t487)))) (N o98 (N boot_o_4 (N boot_o_8 (N o44 t492 (N o88 t496 (N o163 t498 t595))) (N o64 t504 (N o96 t507 t597))) (N o865 (N o56 t515 (N o44 t519 t600)) (N o68 (N o84 (N o43 t389 t522) (N o157 t525 t603)) t531))) (N boot_o_6 (N boot_o_10 (N o43 t536 (N o90 t539 t605)) t553) (N o46 (N o58 t558 (N o43 t562 t607)) (N o43 (N o86 (N o121 t400 t566) (N o43 t569 (N o289 t61 (H o44)))) t575))))
def t612:U:=N o178 (J o43 (H o754)) (J o535 (H o888))
def t616:U:=N o43 (J o421 (H o770)) (J o551 (H o44))
def t618:U:=N o226 (J o455 (H o43)) (J o43 (H o936))
def t621:U:=N o186 (J o413 (H o762)) (J o543 (H o43))
def t623:U:=N o218 (J o64 (H o796)) (J o575 (H o928))
def t627:U:=N o202 (J o429 (H o43)) (J o43 (H o912))
def t629:U:=N o182 (J o409 (H o44)) t61
def t631:U:=N o214 (J o441 (H o792)) (J o571 (H o43))
def t634:U:=N o43 (J o425 (H o43)) (J o43 (H o908))
def t637:U:=N o190 (J o44 (H o766)) (J o547 (H o900))
def t639:U:=N o43 (J o451 (H o800)) (J o579 (H o932))
def t642:U:=N o44 (J o43 (H o784)) (J o563 (H o916))
def t647:U:=N o180 (J o407 (H o756)) (J o537 (H o44))
def t649:U:=N o43 (J o439 (H o43)) (J o43 (H o922))
def t653:U:=N o188 (J o415 (H o43)) (J o43 (H o898))
def t656:U:=N o44 (J o43 (H o798)) (J o577 (H o930))
def t659:U:=N o204 (J o44 (H o782)) (J o561 (H o914))
def t664:U:=N o43 (J o411 (H o43)) (J o43 (H o894))
def t666:U:=N o216 (J o443 (H o43)) (J o43 (H o926))
def t669:U:=N o200 (J o427 (H o778)) (J o557 (H o43))
def t672:U:=N o44 (J o43 (H o768)) (J o549 (H o902))
def t673:U:=N o224 t73 (J o44 (H o934))
def t675:U:=N o43 (J o435 (H o786)) (J o565 (H o44))
def t677:U:=N o44 (J o533 (H o886)) (H o752)
def t680:U:=N o43 (J o406 (H o755)) (J o536 (H o43))
def t682:U:=N o211 (J o44 (H o789)) (J o568 (H o921))
def t686:U:=N o195 (J o422 (H o43)) (J o43 (H o905))
def t688:U:=N o43 (J o43 (H o805)) (J o584 (H o937))
def t691:U:=N o43 (J o414 (H o763)) (J o544 (H o44))
def t693:U:=N o43 (J o448 (H o43)) (J o43 (H o929))
def t697:U:=N o183 (J o410 (H o759)) (J o540 (H o893))
def t699:U:=N o43 (J o442 (H o793)) (J o572 (H o44))
def t702:U:=N o44 (J o43 (H o777)) (J o556 (H o909))
def t705:U:=N o43 (J o418 (H o43)) (J o43 (H o901))
def t707:U:=N o223 (J o452 (H o43)) (J o43 (H o933))
def t709:U:=N o207 (J o434 (H o785)) (J o564 (H o43))
def t713:U:=N o181 (J o408 (H o43)) (J o43 (H o891))
def t716:U:=N o44 (J o43 (H o791)) (J o570 (H o923))
def t719:U:=N o197 (J o44 (H o775)) (J o554 (H o907))
def t723:U:=N o221 (J o450 (H o799)) (J o578 (H o931))
def t726:U:=N o43 (J o432 (H o43)) (J o43 (H o915))
def t730:U:=N o44 (J o412 (H o761)) (J o542 (H o895))
def t734:U:=N o43 (J o428 (H o779)) (J o558 (H o44))
def t737:U:=N o193 (J o420 (H o769)) (J o550 (H o43))
def t739:U:=N o225 (J o44 (H o803)) (J o582 (H o935))
def t742:U:=N o209 (J o436 (H o43)) (J o43 (H o919))
def t744:U:=N o404 (J o43 (H o887)) (H o43)
def tree_937:U:=N boot_o_0 (N boot_o_1 (N o880 (N boot_o_7 (N o43 (N o44 (N o106 t612 t404) (N o141 (N o210 t73 t61) t406)) (N o87 (N o122 t616 t409) (N o64 t618 t578))) (N o43 (N o79 (N o114 t621 t414) (N o152 t623 (N o282 t61 (H o44)))) (N o95 (N o64 t627 t420) t580))) (N o43 (N o55 (N o75 (N o44 t629 t425) (N o64 t631 t428)) (N o43 (N o126 t634 t432) t582)) (N o67 (N o83 (N o118 t637 t437) (N o156 t639 t585)) (N o64 (N o137 t642 t443) (N o174 (N o238 t73 (H o595)) (N o401 (J o43 (H o884)) (H o43))))))) (N boot_o_5 (N boot_o_9 (N o53 (N o43 (N o108 t647 t447) (N o143 t649 t450)) (N o89 (N o124 (N o196 t73 t61) t453) t587)) (N o65 (N o81 (N o43 t653 (N o252 t73 (H o44))) (N o43 t656 t460)) (N o97 (N o43 t659 (N o268 t61 (H o44))) (N o43 t464 (N o399 (J o529 (H o43)) (H o748)))))) (N o45 (N o57 (N o43 (N o43 t664 t467) (N o43 t666 t470)) (N o93 (N o128 t669 t474) t589)) (N o69 (N o85 (N o120 t672 t479) (N o158 t673 t593)) (N o43 (N o43 t675 t484) (N o43 t486 t677)))))) (N o98 (N boot_o_4 (N boot_o_8 (N o44 (N o72 (N o107 t680 t489) (N o142 t682 (N o275 t61 (H o44)))) (N o88 (N o123 t686 t495) (N o163 t688 t595))) (N o64 (N o43 (N o115 t691 t500) (N o153 t693 t503)) (N o96 (N o134 (N o203 t73 t61) t506) t597))) (N o881 (N o56 (N o76 (N o111 t697 t511) (N o149 t699 t514)) (N o44 (N o127 t702 t518) t600)) (N o68 (N o84 (N o43 t705 t522) (N o157 t707 t603)) (N o103 (N o138 t709 t528) (N o175 t530 (N o43 t61 (H o44))))))) (N boot_o_6 (N boot_o_10 (N o43 (N o74 (N o43 t713 (N o245 t73 (H o44))) (N o132 t716 t535)) (N o90 (N o146 t719 (N o261 t61 (H o44))) t605)) (N o43 (N o82 (N o44 (N o189 t73 t61) t544) (N o155 t723 t547)) (N o101 (N o44 t726 t550) (N o173 t552 (N o400 (J o530 (H o64)) (H o749)))))) (N o46 (N o58 (N o44 (N o113 t730 t555) (N o44 (N o217 t73 t61) t557)) (N o43 (N o132 t734 t561) t607)) (N o43 (N o86 (N o121 t737 t566) (N o43 t739 (N o289 t61 (H o44)))) (N o105 (N o140 t742 t572) (N o44 t574 t744))))))
def t746:U:=N o44 (J o471 (H o820)) (J o599 (H o954))
def t749:U:=N o141 (N o210 t73 t61) (N o274 (J o43 (H o852)) t8)
def t751:U:=N o43 (J o487 (H o43)) (J o706 (H o44))
def t753:U:=N o64 t618 (N o382 (J o519 (H o870)) (J o738 (H o1002)))
def t755:U:=N o250 (J o479 (H o828)) (J o698 (H o43))
def t756:U:=N o152 t623 (N o282 t61 (J o44 (H o994)))
def t758:U:=N o266 (J o495 (H o44)) (J o714 (H o978))
def t761:U:=N o44 (N o43 (J o43 (H o812)) (J o591 (H o946))) (N o397 (J o43 (H o878)) (J o43 (H o1010)))
def t763:U:=N o246 (J o44 (H o824)) (J o694 (H o43))
def t765:U:=N o64 t631 (N o278 (J o507 (H o856)) (J o726 (H o43)))
def t767:U:=N o43 (J o491 (H o840)) (J o710 (H o974))
def t770:U:=N o166 (N o43 (J o459 (H o43)) (J o43 (H o942))) (N o386 (J o523 (H o44)) (J o742 (H o1006)))
def t772:U:=N o254 (J o483 (H o43)) (J o43 (H o966))
def t774:U:=N o156 t639 (N o286 (J o515 (H o43)) (J o734 (H o44)))
def t776:U:=N o44 (J o43 (H o848)) (J o43 (H o982))
def t778:U:=N o174 (N o238 t73 (J o595 (H o950))) (N o401 (J o43 (H o884)) (J o43 (H o1014)))
def t780:U:=N o43 (J o473 (H o43)) t73
def t782:U:=N o143 t649 (N o43 (J o505 (H o854)) (J o724 (H o988)))
def t785:U:=N o260 (J o43 (H o838)) t8
def t788:U:=N o43 (N o44 (J o457 (H o806)) (J o585 (H o43))) (N o384 (J o521 (H o872)) (J o740 (H o43)))
def t789:U:=N o252 t73 (J o44 (H o964))
def t791:U:=N o43 t656 (N o284 (J o43 (H o862)) (J o43 (H o996)))
def t792:U:=N o268 t61 (J o44 (H o980))
def t795:U:=N o43 (N o236 (J o465 (H o814)) (J o593 (H o43))) (N o399 (J o529 (H o43)) (J o748 (H o1012)))
def t797:U:=N o43 (J o43 (H o826)) (J o696 (H o960))
def t799:U:=N o43 t666 (N o280 (J o509 (H o44)) (J o728 (H o992)))
def t801:U:=N o264 (J o493 (H o842)) (J o712 (H o43))
def t803:U:=N o168 (N o232 (J o44 (H o810)) (J o589 (H o944))) (N o43 t61 (J o44 (H o1008)))
def t805:U:=N o44 (J o485 (H o834)) (J o704 (H o968))
def t807:U:=N o158 t673 (N o288 (J o43 (H o868)) t8)
def t809:U:=N o43 t675 (N o43 (J o501 (H o43)) (J o720 (H o44)))
def t811:U:=N o240 (J o469 (H o43)) (J o597 (H o952))
def t813:U:=N o243 (J o472 (H o821)) (J o600 (H o43))
def t814:U:=N o142 t682 (N o275 t61 (J o44 (H o987)))
def t816:U:=N o259 (J o488 (H o44)) (J o707 (H o971))
def t818:U:=N o163 t688 (N o383 (J o43 (H o871)) (J o43 (H o1003)))
def t820:U:=N o43 (J o480 (H o43)) t73
def t822:U:=N o153 t693 (N o283 (J o512 (H o861)) (J o731 (H o995)))
def t825:U:=N o267 (J o43 (H o845)) t8
def t828:U:=N o171 (N o44 (J o464 (H o813)) (J o592 (H o947))) (N o43 (J o528 (H o879)) (J o747 (H o1011)))
def t830:U:=N o247 (J o476 (H o43)) (J o43 (H o959))
def t832:U:=N o149 t699 (N o43 (J o508 (H o43)) (J o727 (H o44)))
def t834:U:=N o44 (J o43 (H o841)) (J o43 (H o975))
def t836:U:=N o167 (N o231 t73 t61) (N o390 (J o43 (H o875)) (J o43 (H o1007)))
def t838:U:=N o43 (J o43 (H o833)) (J o703 (H o967))
def t840:U:=N o157 t707 (N o287 (J o516 (H o44)) (J o735 (H o999)))
def t843:U:=N o103 (N o138 t709 (N o271 (J o500 (H o849)) (J o719 (H o43)))) (N o175 (N o239 (J o44 (H o817)) (J o596 (H o43))) (N o43 t61 (J o44 (H o1015))))
def t844:U:=N o245 t73 (J o44 (H o957))
def t846:U:=N o132 t716 (N o44 (J o43 (H o855)) (J o43 (H o989)))
def t847:U:=N o261 t61 (J o44 (H o973))
def t850:U:=N o165 (N o229 (J o458 (H o807)) (J o586 (H o64))) (N o385 (J o522 (H o43)) (J o741 (H o44)))
def t853:U:=N o253 (J o44 (H o831)) (J o701 (H o43))
def t855:U:=N o155 t723 (N o285 (J o514 (H o863)) (J o733 (H o43)))
def t857:U:=N o43 (J o498 (H o847)) (J o717 (H o981))
def t860:U:=N o173 (N o43 (J o466 (H o43)) (J o594 (H o44))) (N o400 (J o530 (H o64)) (J o749 (H o1013)))
def t862:U:=N o44 (J o478 (H o827)) (J o697 (H o961))
def t865:U:=N o44 (N o217 t73 t61) (N o281 (J o43 (H o859)) t8)
def t867:U:=N o43 (J o494 (H o43)) (J o713 (H o44))
def t870:U:=N o43 (N o233 (J o462 (H o43)) (J o43 (H o945))) (N o64 (J o526 (H o877)) (J o745 (H o1009)))
def t872:U:=N o257 (J o486 (H o835)) (J o705 (H o43))
def t873:U:=N o43 t739 (N o289 t61 (J o44 (H o1001)))
def t875:U:=N o140 t742 (N o273 (J o502 (H o44)) (J o721 (H o985)))
def t877:U:=N o43 (J o43 (H o819)) (J o598 (H o953))
def tree_1015:U:=N boot_o_0 (N boot_o_1 (N o938 (N boot_o_7 (N o43 (N o44 (N o106 t612 t746) t749) (N o87 (N o122 t616 t751) t753)) (N o43 (N o79 (N o114 t621 t755) t756) (N o95 (N o64 t627 t758) t761))) (N o43 (N o55 (N o75 (N o44 t629 t763) t765) (N o43 (N o126 t634 t767) t770)) (N o67 (N o83 (N o118 t637 t772) t774) (N o64 (N o137 t642 t776) t778)))) (N boot_o_5 (N boot_o_9 (N o53 (N o43 (N o108 t647 t780) t782) (N o89 (N o124 (N o196 t73 t61) t785) t788)) (N o65 (N o81 (N o43 t653 t789) t791) (N o97 (N o43 t659 t792) t795))) (N o45 (N o57 (N o43 (N o43 t664 t797) t799) (N o93 (N o128 t669 t801) t803)) (N o69 (N o85 (N o120 t672 t805) t807) (N o43 t809 (N o43 t811 t677)))))) (N o98 (N boot_o_4 (N boot_o_8 (N o44 (N o72 (N o107 t680 t813) t814) (N o88 (N o123 t686 t816) t818)) (N o64 (N o43 (N o115 t691 t820) t822) (N o96 (N o134 (N o203 t73 t61) t825) t828))) (N o939 (N o56 (N o76 (N o111 t697 t830) t832) (N o44 (N o127 t702 t834) t836)) (N o68 (N o84 (N o43 t705 t838) t840) t843))) (N boot_o_6 (N boot_o_10 (N o43 (N o74 (N o43 t713 t844) t846) (N o90 (N o146 t719 t847) t850)) (N o43 (N o82 (N o44 (N o189 t73 t61) t853) t855) (N o101 (N o44 t726 t857) t860))) (N o46 (N o58 (N o44 (N o113 t730 t862) t865) (N o43 (N o132 t734 t867) t870)) (N o43 (N o86 (N o121 t737 t872) t873) (N o105 t875 (N o44 t877 t744))))))
def tree_1048:U:=N boot_o_0 (N boot_o_1 (N o1016 (N boot_o_7 (N o43 (N o44 (N o106 (N o178 (N o43 (H o754) (H o1020)) (J o535 (H o888))) t746) t749) (N o87 (N o122 (N o43 (N o421 (H o770) (H o1036)) (J o551 (H o44))) t751) t753)) (N o43 (N o79 (N o114 (N o186 (N o413 (H o762) (H o43)) (J o543 (H o43))) t755) t756) (N o95 (N o64 (N o202 (N o429 (H o43) (H o43)) (J o43 (H o912))) t758) t761))) (N o43 (N o55 (N o75 (N o44 (N o182 (N o409 (H o44) (H o1024)) t61) t763) t765) (N o43 (N o126 (N o43 (N o425 (H o43) (H o43)) (J o43 (H o908))) t767) t770)) (N o67 (N o83 (N o118 (N o190 (N o44 (H o766) (H o43)) (J o547 (H o900))) t772) t774) (N o64 (N o137 (N o44 (N o43 (H o784) (H o1048)) (J o563 (H o916))) t776) t778)))) (N boot_o_5 (N boot_o_9 (N o53 (N o43 (N o108 (N o180 (N o407 (H o756) (H o1022)) (J o537 (H o44))) t780) t782) (N o89 (N o124 (N o196 t374 t61) t785) t788)) (N o65 (N o81 (N o43 (N o188 (N o415 (H o43) (H o1030)) (J o43 (H o898))) t789) t791) (N o97 (N o43 (N o204 (N o44 (H o782) (H o1046)) (J o561 (H o914))) t792) t795))) (N o45 (N o57 (N o43 (N o43 (N o43 (N o411 (H o43) (H o44)) (J o43 (H o894))) t797) t799) (N o93 (N o128 (N o200 (N o427 (H o778) (H o1042)) (J o557 (H o43))) t801) t803)) (N o69 (N o85 (N o120 (N o44 (N o43 (H o768) (H o1034)) (J o549 (H o902))) t805) t807) (N o43 t809 (N o43 t811 (N o44 (J o533 (H o886)) (J o752 (H o43))))))))) (N o98 (N boot_o_4 (N boot_o_8 (N o44 (N o72 (N o107 (N o43 (N o406 (H o755) (H o43)) (J o536 (H o43))) t813) t814) (N o88 (N o123 (N o195 (N o422 (H o43) (H o43)) (J o43 (H o905))) t816) t818)) (N o64 (N o43 (N o115 (N o43 (N o414 (H o763) (H o1029)) (J o544 (H o44))) t820) t822) (N o96 (N o134 (N o203 t374 t61) t825) t828))) (N o1017 (N o56 (N o76 (N o111 (N o183 (N o410 (H o759) (H o43)) (J o540 (H o893))) t830) t832) (N o44 (N o127 (N o44 (N o43 (H o777) (H o1041)) (J o556 (H o909))) t834) t836)) (N o68 (N o84 (N o43 (N o43 (N o418 (H o43) (H o44)) (J o43 (H o901))) t838) t840) t843))) (N boot_o_6 (N boot_o_10 (N o43 (N o74 (N o43 (N o181 (N o408 (H o43) (H o1023)) (J o43 (H o891))) t844) t846) (N o90 (N o146 (N o197 (N o44 (H o775) (H o1039)) (J o554 (H o907))) t847) t850)) (N o43 (N o82 (N o44 (N o189 (N o43 (H o44) (H o1031)) t61) t853) t855) (N o101 (N o44 (N o43 (N o432 (H o43) (H o1047)) (J o43 (H o915))) t857) t860))) (N o46 (N o58 (N o44 (N o113 (N o44 (N o412 (H o761) (H o1027)) (J o542 (H o895))) t862) t865) (N o43 (N o132 (N o43 (N o428 (H o779) (H o1043)) (J o558 (H o44))) t867) t870)) (N o43 (N o86 (N o121 (N o193 (N o420 (H o769) (H o1035)) (J o550 (H o43))) t872) t873) (N o105 t875 (N o44 t877 (N o404 (J o43 (H o887)) t73)))))))
noncomputable def heap_1049 (P : Params) : Heap := ⟨#[boot_o_0 P, boot_o_1 P, o98 P, o1016 P, boot_o_4 P, boot_o_5 P, boot_o_6 P, boot_o_7 P, boot_o_8 P, boot_o_9 P, boot_o_10 P, o43 P, o1017 P, o45 P, o46 P, o43 P, o44 P, o53 P, o43 P, o55 P, o56 P, o57 P, o58 P, o43 P, o64 P, o65 P, o43 P, o67 P, o68 P, o69 P, o43 P, o44 P, o72 P, o43 P, o74 P, o75 P, o76 P, o43 P, o44 P, o79 P, o43 P, o81 P, o82 P, o83 P, o84 P, o85 P, o86 P, o87 P, o88 P, o89 P, o90 P, o43 P, o44 P, o93 P, o43 P, o95 P, o96 P, o97 P, o101 P, o64 P, o103 P, o43 P, o105 P, o106 P, o107 P, o108 P, o43 P, o44 P, o111 P, o43 P, o113 P, o114 P, o115 P, o43 P, o44 P, o118 P, o43 P, o120 P, o121 P, o122 P, o123 P, o124 P, o146 P, o126 P, o127 P, o128 P, o132 P, o64 P, o134 P, o43 P, o44 P, o137 P, o138 P, o43 P, o140 P, o141 P, o142 P, o143 P, o132 P, o64 P, o149 P, o43 P, o44 P, o152 P, o153 P, o43 P, o155 P, o156 P, o157 P, o158 P, o43 P, o64 P, o163 P, o43 P, o165 P, o166 P, o167 P, o168 P, o43 P, o44 P, o171 P, o43 P, o173 P, o174 P, o175 P, o43 P, o44 P, o178 P, o43 P, o180 P, o181 P, o182 P, o183 P, o43 P, o44 P, o186 P, o43 P, o188 P, o189 P, o190 P, o43 P, o44 P, o193 P, o43 P, o195 P, o196 P, o197 P, o43 P, o44 P, o200 P, o43 P, o202 P, o203 P, o204 P, o43 P, o44 P, o207 P, o43 P, o209 P, o210 P, o211 P, o43 P, o44 P, o214 P, o43 P, o216 P, o217 P, o218 P, o43 P, o44 P, o221 P, o43 P, o223 P, o224 P, o225 P, o226 P, o43 P, o44 P, o229 P, o43 P, o231 P, o232 P, o233 P, o43 P, o44 P, o236 P, o43 P, o238 P, o239 P, o240 P, o43 P, o44 P, o243 P, o43 P, o245 P, o246 P, o247 P, o43 P, o44 P, o250 P, o43 P, o252 P, o253 P, o254 P, o43 P, o44 P, o257 P, o43 P, o259 P, o260 P, o261 P, o43 P, o44 P, o264 P, o43 P, o266 P, o267 P, o268 P, o43 P, o44 P, o271 P, o43 P, o273 P, o274 P, o275 P, o43 P, o44 P, o278 P, o43 P, o280 P, o281 P, o282 P, o283 P, o284 P, o285 P, o286 P, o287 P, o288 P, o289 P, o382 P, o383 P, o384 P, o385 P, o386 P, o390 P, o43 P, o64 P, o397 P, o43 P, o399 P, o400 P, o401 P, o43 P, o44 P, o404 P, o43 P, o406 P, o407 P, o408 P, o409 P, o410 P, o411 P, o412 P, o413 P, o414 P, o415 P, o43 P, o44 P, o418 P, o43 P, o420 P, o421 P, o422 P, o43 P, o44 P, o425 P, o43 P, o427 P, o428 P, o429 P, o43 P, o44 P, o432 P, o43 P, o434 P, o435 P, o436 P, o43 P, o44 P, o439 P, o43 P, o441 P, o442 P, o443 P, o43 P, o64 P, o448 P, o43 P, o450 P, o451 P, o452 P, o43 P, o44 P, o455 P, o43 P, o457 P, o458 P, o459 P, o43 P, o44 P, o462 P, o43 P, o464 P, o465 P, o466 P, o43 P, o44 P, o469 P, o43 P, o471 P, o472 P, o473 P, o43 P, o44 P, o476 P, o43 P, o478 P, o479 P, o480 P, o43 P, o44 P, o483 P, o43 P, o485 P, o486 P, o487 P, o488 P, o43 P, o44 P, o491 P, o43 P, o493 P, o494 P, o495 P, o43 P, o44 P, o498 P, o43 P, o500 P, o501 P, o502 P, o43 P, o44 P, o505 P, o43 P, o507 P, o508 P, o509 P, o43 P, o44 P, o512 P, o43 P, o514 P, o515 P, o516 P, o43 P, o44 P, o519 P, o43 P, o521 P, o522 P, o523 P, o43 P, o44 P, o526 P, o43 P, o528 P, o529 P, o530 P, o43 P, o44 P, o533 P, o43 P, o535 P, o536 P, o537 P, o43 P, o44 P, o540 P, o43 P, o542 P, o543 P, o544 P, o43 P, o44 P, o547 P, o43 P, o549 P, o550 P, o551 P, o43 P, o44 P, o554 P, o43 P, o556 P, o557 P, o558 P, o43 P, o44 P, o561 P, o43 P, o563 P, o564 P, o565 P, o43 P, o44 P, o568 P, o43 P, o570 P, o571 P, o572 P, o43 P, o44 P, o575 P, o43 P, o577 P, o578 P, o579 P, o43 P, o44 P, o582 P, o43 P, o584 P, o585 P, o586 P, o43 P, o44 P, o589 P, o43 P, o591 P, o592 P, o593 P, o594 P, o595 P, o596 P, o597 P, o598 P, o599 P, o600 P, o43 P, o44 P, o694 P, o43 P, o696 P, o697 P, o698 P, o43 P, o44 P, o701 P, o43 P, o703 P, o704 P, o705 P, o706 P, o707 P, o43 P, o44 P, o710 P, o43 P, o712 P, o713 P, o714 P, o43 P, o44 P, o717 P, o43 P, o719 P, o720 P, o721 P, o43 P, o44 P, o724 P, o43 P, o726 P, o727 P, o728 P, o43 P, o44 P, o731 P, o43 P, o733 P, o734 P, o735 P, o43 P, o44 P, o738 P, o43 P, o740 P, o741 P, o742 P, o43 P, o44 P, o745 P, o43 P, o747 P, o748 P, o749 P, o43 P, o44 P, o752 P, o43 P, o754 P, o755 P, o756 P, o43 P, o44 P, o759 P, o43 P, o761 P, o762 P, o763 P, o43 P, o44 P, o766 P, o43 P, o768 P, o769 P, o770 P, o43 P, o44 P, o775 P, o43 P, o777 P, o778 P, o779 P, o43 P, o44 P, o782 P, o43 P, o784 P, o785 P, o786 P, o43 P, o44 P, o789 P, o43 P, o791 P, o792 P, o793 P, o43 P, o44 P, o796 P, o43 P, o798 P, o799 P, o800 P, o43 P, o44 P, o803 P, o43 P, o805 P, o806 P, o807 P, o43 P, o44 P, o810 P, o43 P, o812 P, o813 P, o814 P, o43 P, o44 P, o817 P, o43 P, o819 P, o820 P, o821 P, o43 P, o44 P, o824 P, o43 P, o826 P, o827 P, o828 P, o43 P, o44 P, o831 P, o43 P, o833 P, o834 P, o835 P, o43 P, o44 P, o838 P, o43 P, o840 P, o841 P, o842 P, o43 P, o44 P, o845 P, o43 P, o847 P, o848 P, o849 P, o43 P, o44 P, o852 P, o43 P, o854 P, o855 P, o856 P, o43 P, o44 P, o859 P, o43 P, o861 P, o862 P, o863 P, o43 P, o44 P, o868 P, o43 P, o870 P, o871 P, o872 P, o43 P, o44 P, o875 P, o43 P, o877 P, o878 P, o879 P, o43 P, o64 P, o884 P, o43 P, o886 P, o887 P, o888 P, o43 P, o44 P, o891 P, o43 P, o893 P, o894 P, o895 P, o43 P, o44 P, o898 P, o43 P, o900 P, o901 P, o902 P, o43 P, o44 P, o905 P, o43 P, o907 P, o908 P, o909 P, o43 P, o44 P, o912 P, o43 P, o914 P, o915 P, o916 P, o43 P, o44 P, o919 P, o43 P, o921 P, o922 P, o923 P, o43 P, o44 P, o926 P, o43 P, o928 P, o929 P, o930 P, o931 P, o932 P, o933 P, o934 P, o935 P, o936 P, o937 P, o43 P, o64 P, o942 P, o43 P, o944 P, o945 P, o946 P, o947 P, o43 P, o44 P, o950 P, o43 P, o952 P, o953 P, o954 P, o43 P, o44 P, o957 P, o43 P, o959 P, o960 P, o961 P, o43 P, o44 P, o964 P, o43 P, o966 P, o967 P, o968 P, o43 P, o44 P, o971 P, o43 P, o973 P, o974 P, o975 P, o43 P, o44 P, o978 P, o43 P, o980 P, o981 P, o982 P, o43 P, o44 P, o985 P, o43 P, o987 P, o988 P, o989 P, o43 P, o44 P, o992 P, o43 P, o994 P, o995 P, o996 P, o43 P, o44 P, o999 P, o43 P, o1001 P, o1002 P, o1003 P, o43 P, o44 P, o1006 P, o1007 P, o1008 P, o1009 P, o1010 P, o1011 P, o1012 P, o1013 P, o1014 P, o1015 P, o43 P, o44 P, o1020 P, o43 P, o1022 P, o1023 P, o1024 P, o43 P, o44 P, o1027 P, o43 P, o1029 P, o1030 P, o1031 P, o43 P, o44 P, o1034 P, o1035 P, o1036 P, o43 P, o44 P, o1039 P, o43 P, o1041 P, o1042 P, o1043 P, o43 P, o44 P, o1046 P, o1047 P, o1048 P],{}⟩
noncomputable def heap_46 (P : Params) : Heap := ⟨#[boot_o_0 P, boot_o_1 P, boot_o_2 P, boot_o_3 P, boot_o_4 P, boot_o_5 P, boot_o_6 P, boot_o_7 P, boot_o_8 P, boot_o_9 P, boot_o_10 P, o43 P, o44 P, o45 P, o46 P],{}⟩
noncomputable def Ksrc (P : Params) : Frag := (nat_lit 2, o98 P) :: (nat_lit 3, o1016 P) :: (nat_lit 15, o43 P) :: (nat_lit 17, o53 P) :: (nat_lit 18, o43 P) :: (nat_lit 20, o56 P) :: (nat_lit 21, o57 P) :: (nat_lit 22, o58 P) :: (nat_lit 30, o43 P) :: (nat_lit 32, o72 P) :: (nat_lit 33, o43 P) :: (nat_lit 35, o75 P) :: (nat_lit 36, o76 P) :: (nat_lit 37, o43 P) :: (nat_lit 39, o79 P) :: (nat_lit 40, o43 P) :: (nat_lit 42, o82 P) :: (nat_lit 43, o83 P) :: (nat_lit 44, o84 P) :: (nat_lit 45, o85 P) :: (nat_lit 46, o86 P) :: (nat_lit 47, o87 P) :: (nat_lit 48, o88 P) :: (nat_lit 51, o43 P) :: (nat_lit 53, o93 P) :: (nat_lit 54, o43 P) :: (nat_lit 56, o96 P) :: (nat_lit 57, o97 P) :: (nat_lit 58, o101 P) :: (nat_lit 65, o108 P) :: (nat_lit 66, o43 P) :: (nat_lit 68, o111 P) :: (nat_lit 69, o43 P) :: (nat_lit 71, o114 P) :: (nat_lit 72, o115 P) :: (nat_lit 73, o43 P) :: (nat_lit 75, o118 P) :: (nat_lit 76, o43 P) :: (nat_lit 78, o121 P) :: (nat_lit 79, o122 P) :: (nat_lit 80, o123 P) :: (nat_lit 81, o124 P) :: (nat_lit 82, o146 P) :: (nat_lit 83, o126 P) :: (nat_lit 86, o132 P) :: (nat_lit 93, o43 P) :: (nat_lit 94, o140 P) :: (nat_lit 95, o141 P) :: (nat_lit 98, o132 P) :: (nat_lit 105, o43 P) :: (nat_lit 106, o155 P) :: (nat_lit 107, o156 P) :: (nat_lit 117, o168 P) :: (nat_lit 118, o43 P) :: (nat_lit 120, o171 P) :: (nat_lit 121, o43 P) :: (nat_lit 123, o174 P) :: (nat_lit 124, o175 P) :: (nat_lit 125, o43 P) :: (nat_lit 127, o178 P) :: (nat_lit 128, o43 P) :: (nat_lit 130, o181 P) :: (nat_lit 131, o182 P) :: (nat_lit 132, o183 P) :: (nat_lit 133, o43 P) :: (nat_lit 135, o186 P) :: (nat_lit 136, o43 P) :: (nat_lit 138, o189 P) :: (nat_lit 139, o190 P) :: (nat_lit 140, o43 P) :: (nat_lit 142, o193 P) :: (nat_lit 143, o43 P) :: (nat_lit 145, o196 P) :: (nat_lit 146, o197 P) :: (nat_lit 147, o43 P) :: (nat_lit 149, o200 P) :: (nat_lit 150, o43 P) :: (nat_lit 152, o203 P) :: (nat_lit 153, o204 P) :: (nat_lit 154, o43 P) :: (nat_lit 156, o207 P) :: (nat_lit 157, o43 P) :: (nat_lit 159, o210 P) :: (nat_lit 160, o211 P) :: (nat_lit 161, o43 P) :: (nat_lit 163, o214 P) :: (nat_lit 164, o43 P) :: (nat_lit 166, o217 P) :: (nat_lit 167, o218 P) :: (nat_lit 168, o43 P) :: (nat_lit 170, o221 P) :: (nat_lit 171, o43 P) :: (nat_lit 173, o224 P) :: (nat_lit 174, o225 P) :: (nat_lit 175, o226 P) :: (nat_lit 176, o43 P) :: (nat_lit 178, o229 P) :: (nat_lit 179, o43 P) :: (nat_lit 181, o232 P) :: (nat_lit 182, o233 P) :: (nat_lit 183, o43 P) :: (nat_lit 185, o236 P) :: (nat_lit 186, o43 P) :: (nat_lit 188, o239 P) :: (nat_lit 189, o240 P) :: (nat_lit 190, o43 P) :: (nat_lit 192, o243 P) :: (nat_lit 193, o43 P) :: (nat_lit 195, o246 P) :: (nat_lit 196, o247 P) :: (nat_lit 197, o43 P) :: (nat_lit 199, o250 P) :: (nat_lit 200, o43 P) :: (nat_lit 202, o253 P) :: (nat_lit 203, o254 P) :: (nat_lit 204, o43 P) :: (nat_lit 206, o257 P) :: (nat_lit 207, o43 P) :: (nat_lit 209, o260 P) :: (nat_lit 210, o261 P) :: (nat_lit 211, o43 P) :: (nat_lit 213, o264 P) :: (nat_lit 214, o43 P) :: (nat_lit 216, o267 P) :: (nat_lit 217, o268 P) :: (nat_lit 218, o43 P) :: (nat_lit 220, o271 P) :: (nat_lit 221, o43 P) :: (nat_lit 223, o274 P) :: (nat_lit 224, o275 P) :: (nat_lit 225, o43 P) :: (nat_lit 227, o278 P) :: (nat_lit 228, o43 P) :: (nat_lit 230, o281 P) :: (nat_lit 231, o282 P) :: (nat_lit 232, o283 P) :: (nat_lit 233, o284 P) :: (nat_lit 234, o285 P) :: (nat_lit 235, o286 P) :: (nat_lit 236, o287 P) :: (nat_lit 239, o382 P) :: (nat_lit 241, o384 P) :: (nat_lit 242, o385 P) :: (nat_lit 243, o386 P) :: (nat_lit 244, o390 P) :: (nat_lit 252, o43 P) :: (nat_lit 254, o404 P) :: (nat_lit 255, o43 P) :: (nat_lit 257, o407 P) :: (nat_lit 258, o408 P) :: (nat_lit 259, o409 P) :: (nat_lit 260, o410 P) :: (nat_lit 261, o411 P) :: (nat_lit 262, o412 P) :: (nat_lit 263, o413 P) :: (nat_lit 266, o43 P) :: (nat_lit 268, o418 P) :: (nat_lit 269, o43 P) :: (nat_lit 271, o421 P) :: (nat_lit 272, o422 P) :: (nat_lit 273, o43 P) :: (nat_lit 275, o425 P) :: (nat_lit 276, o43 P) :: (nat_lit 278, o428 P) :: (nat_lit 279, o429 P) :: (nat_lit 280, o43 P) :: (nat_lit 282, o432 P) :: (nat_lit 283, o43 P) :: (nat_lit 285, o435 P) :: (nat_lit 286, o436 P) :: (nat_lit 287, o43 P) :: (nat_lit 289, o439 P) :: (nat_lit 290, o43 P) :: (nat_lit 292, o442 P) :: (nat_lit 293, o443 P) :: (nat_lit 301, o43 P) :: (nat_lit 303, o455 P) :: (nat_lit 304, o43 P) :: (nat_lit 306, o458 P) :: (nat_lit 307, o459 P) :: (nat_lit 308, o43 P) :: (nat_lit 310, o462 P) :: (nat_lit 311, o43 P) :: (nat_lit 313, o465 P) :: (nat_lit 314, o466 P) :: (nat_lit 315, o43 P) :: (nat_lit 317, o469 P) :: (nat_lit 318, o43 P) :: (nat_lit 320, o472 P) :: (nat_lit 321, o473 P) :: (nat_lit 322, o43 P) :: (nat_lit 324, o476 P) :: (nat_lit 325, o43 P) :: (nat_lit 327, o479 P) :: (nat_lit 328, o480 P) :: (nat_lit 329, o43 P) :: (nat_lit 331, o483 P) :: (nat_lit 332, o43 P) :: (nat_lit 334, o486 P) :: (nat_lit 335, o487 P) :: (nat_lit 336, o488 P) :: (nat_lit 337, o43 P) :: (nat_lit 339, o491 P) :: (nat_lit 340, o43 P) :: (nat_lit 342, o494 P) :: (nat_lit 343, o495 P) :: (nat_lit 344, o43 P) :: (nat_lit 346, o498 P) :: (nat_lit 347, o43 P) :: (nat_lit 349, o501 P) :: (nat_lit 350, o502 P) :: (nat_lit 351, o43 P) :: (nat_lit 353, o505 P) :: (nat_lit 354, o43 P) :: (nat_lit 356, o508 P) :: (nat_lit 357, o509 P) :: (nat_lit 358, o43 P) :: (nat_lit 360, o512 P) :: (nat_lit 361, o43 P) :: (nat_lit 363, o515 P) :: (nat_lit 364, o516 P) :: (nat_lit 365, o43 P) :: (nat_lit 367, o519 P) :: (nat_lit 368, o43 P) :: (nat_lit 370, o522 P) :: (nat_lit 371, o523 P) :: (nat_lit 372, o43 P) :: (nat_lit 374, o526 P) :: (nat_lit 375, o43 P) :: (nat_lit 377, o529 P) :: (nat_lit 378, o530 P) :: (nat_lit 379, o43 P) :: (nat_lit 381, o533 P) :: (nat_lit 382, o43 P) :: (nat_lit 384, o536 P) :: (nat_lit 385, o537 P) :: (nat_lit 386, o43 P) :: (nat_lit 388, o540 P) :: (nat_lit 389, o43 P) :: (nat_lit 391, o543 P) :: (nat_lit 392, o544 P) :: (nat_lit 393, o43 P) :: (nat_lit 395, o547 P) :: (nat_lit 396, o43 P) :: (nat_lit 398, o550 P) :: (nat_lit 399, o551 P) :: (nat_lit 400, o43 P) :: (nat_lit 402, o554 P) :: (nat_lit 403, o43 P) :: (nat_lit 405, o557 P) :: (nat_lit 406, o558 P) :: (nat_lit 407, o43 P) :: (nat_lit 409, o561 P) :: (nat_lit 410, o43 P) :: (nat_lit 412, o564 P) :: (nat_lit 413, o565 P) :: (nat_lit 414, o43 P) :: (nat_lit 416, o568 P) :: (nat_lit 417, o43 P) :: (nat_lit 419, o571 P) :: (nat_lit 420, o572 P) :: (nat_lit 421, o43 P) :: (nat_lit 423, o575 P) :: (nat_lit 424, o43 P) :: (nat_lit 426, o578 P) :: (nat_lit 427, o579 P) :: (nat_lit 428, o43 P) :: (nat_lit 430, o582 P) :: (nat_lit 431, o43 P) :: (nat_lit 433, o585 P) :: (nat_lit 434, o586 P) :: (nat_lit 435, o43 P) :: (nat_lit 437, o589 P) :: (nat_lit 438, o43 P) :: (nat_lit 440, o592 P) :: (nat_lit 441, o593 P) :: (nat_lit 442, o594 P) :: (nat_lit 443, o595 P) :: (nat_lit 444, o596 P) :: (nat_lit 445, o597 P) :: (nat_lit 446, o598 P) :: (nat_lit 449, o43 P) :: (nat_lit 451, o694 P) :: (nat_lit 452, o43 P) :: (nat_lit 454, o697 P) :: (nat_lit 455, o698 P) :: (nat_lit 456, o43 P) :: (nat_lit 458, o701 P) :: (nat_lit 459, o43 P) :: (nat_lit 461, o704 P) :: (nat_lit 462, o705 P) :: (nat_lit 463, o706 P) :: (nat_lit 464, o707 P) :: (nat_lit 465, o43 P) :: (nat_lit 467, o710 P) :: (nat_lit 468, o43 P) :: (nat_lit 470, o713 P) :: (nat_lit 471, o714 P) :: (nat_lit 472, o43 P) :: (nat_lit 474, o717 P) :: (nat_lit 475, o43 P) :: (nat_lit 477, o720 P) :: (nat_lit 478, o721 P) :: (nat_lit 479, o43 P) :: (nat_lit 481, o724 P) :: (nat_lit 482, o43 P) :: (nat_lit 484, o727 P) :: (nat_lit 485, o728 P) :: (nat_lit 486, o43 P) :: (nat_lit 488, o731 P) :: (nat_lit 489, o43 P) :: (nat_lit 491, o734 P) :: (nat_lit 492, o735 P) :: (nat_lit 493, o43 P) :: (nat_lit 495, o738 P) :: (nat_lit 496, o43 P) :: (nat_lit 498, o741 P) :: (nat_lit 499, o742 P) :: (nat_lit 500, o43 P) :: (nat_lit 502, o745 P) :: (nat_lit 503, o43 P) :: (nat_lit 505, o748 P) :: (nat_lit 506, o749 P) :: (nat_lit 507, o43 P) :: (nat_lit 509, o752 P) :: (nat_lit 510, o43 P) :: (nat_lit 512, o755 P) :: (nat_lit 513, o756 P) :: (nat_lit 514, o43 P) :: (nat_lit 516, o759 P) :: (nat_lit 517, o43 P) :: (nat_lit 519, o762 P) :: (nat_lit 520, o763 P) :: (nat_lit 521, o43 P) :: (nat_lit 523, o766 P) :: (nat_lit 524, o43 P) :: (nat_lit 526, o769 P) :: (nat_lit 527, o770 P) :: (nat_lit 528, o43 P) :: (nat_lit 530, o775 P) :: (nat_lit 531, o43 P) :: (nat_lit 533, o778 P) :: (nat_lit 534, o779 P) :: (nat_lit 535, o43 P) :: (nat_lit 537, o782 P) :: (nat_lit 538, o43 P) :: (nat_lit 540, o785 P) :: (nat_lit 541, o786 P) :: (nat_lit 542, o43 P) :: (nat_lit 544, o789 P) :: (nat_lit 545, o43 P) :: (nat_lit 547, o792 P) :: (nat_lit 548, o793 P) :: (nat_lit 549, o43 P) :: (nat_lit 551, o796 P) :: (nat_lit 552, o43 P) :: (nat_lit 554, o799 P) :: (nat_lit 555, o800 P) :: (nat_lit 556, o43 P) :: (nat_lit 558, o803 P) :: (nat_lit 559, o43 P) :: (nat_lit 561, o806 P) :: (nat_lit 562, o807 P) :: (nat_lit 563, o43 P) :: (nat_lit 565, o810 P) :: (nat_lit 566, o43 P) :: (nat_lit 568, o813 P) :: (nat_lit 569, o814 P) :: (nat_lit 570, o43 P) :: (nat_lit 572, o817 P) :: (nat_lit 573, o43 P) :: (nat_lit 575, o820 P) :: (nat_lit 576, o821 P) :: (nat_lit 577, o43 P) :: (nat_lit 579, o824 P) :: (nat_lit 580, o43 P) :: (nat_lit 582, o827 P) :: (nat_lit 583, o828 P) :: (nat_lit 584, o43 P) :: (nat_lit 586, o831 P) :: (nat_lit 587, o43 P) :: (nat_lit 589, o834 P) :: (nat_lit 590, o835 P) :: (nat_lit 591, o43 P) :: (nat_lit 593, o838 P) :: (nat_lit 594, o43 P) :: (nat_lit 596, o841 P) :: (nat_lit 597, o842 P) :: (nat_lit 598, o43 P) :: (nat_lit 600, o845 P) :: (nat_lit 601, o43 P) :: (nat_lit 603, o848 P) :: (nat_lit 604, o849 P) :: (nat_lit 605, o43 P) :: (nat_lit 607, o852 P) :: (nat_lit 608, o43 P) :: (nat_lit 610, o855 P) :: (nat_lit 611, o856 P) :: (nat_lit 612, o43 P) :: (nat_lit 614, o859 P) :: (nat_lit 615, o43 P) :: (nat_lit 617, o862 P) :: (nat_lit 618, o863 P) :: (nat_lit 619, o43 P) :: (nat_lit 621, o868 P) :: (nat_lit 622, o43 P) :: (nat_lit 624, o871 P) :: (nat_lit 625, o872 P) :: (nat_lit 626, o43 P) :: (nat_lit 628, o875 P) :: (nat_lit 629, o43 P) :: (nat_lit 631, o878 P) :: (nat_lit 632, o879 P) :: (nat_lit 640, o43 P) :: (nat_lit 642, o891 P) :: (nat_lit 643, o43 P) :: (nat_lit 645, o894 P) :: (nat_lit 646, o895 P) :: (nat_lit 647, o43 P) :: (nat_lit 649, o898 P) :: (nat_lit 650, o43 P) :: (nat_lit 652, o901 P) :: (nat_lit 653, o902 P) :: (nat_lit 654, o43 P) :: (nat_lit 656, o905 P) :: (nat_lit 657, o43 P) :: (nat_lit 659, o908 P) :: (nat_lit 660, o909 P) :: (nat_lit 661, o43 P) :: (nat_lit 663, o912 P) :: (nat_lit 664, o43 P) :: (nat_lit 666, o915 P) :: (nat_lit 667, o916 P) :: (nat_lit 668, o43 P) :: (nat_lit 670, o919 P) :: (nat_lit 671, o43 P) :: (nat_lit 673, o922 P) :: (nat_lit 674, o923 P) :: (nat_lit 675, o43 P) :: (nat_lit 677, o926 P) :: (nat_lit 678, o43 P) :: (nat_lit 680, o929 P) :: (nat_lit 681, o930 P) :: (nat_lit 682, o931 P) :: (nat_lit 683, o932 P) :: (nat_lit 684, o933 P) :: (nat_lit 685, o934 P) :: (nat_lit 686, o935 P) :: (nat_lit 696, o947 P) :: (nat_lit 697, o43 P) :: (nat_lit 699, o950 P) :: (nat_lit 700, o43 P) :: (nat_lit 702, o953 P) :: (nat_lit 703, o954 P) :: (nat_lit 704, o43 P) :: (nat_lit 706, o957 P) :: (nat_lit 707, o43 P) :: (nat_lit 709, o960 P) :: (nat_lit 710, o961 P) :: (nat_lit 711, o43 P) :: (nat_lit 713, o964 P) :: (nat_lit 714, o43 P) :: (nat_lit 716, o967 P) :: (nat_lit 717, o968 P) :: (nat_lit 718, o43 P) :: (nat_lit 720, o971 P) :: (nat_lit 721, o43 P) :: (nat_lit 723, o974 P) :: (nat_lit 724, o975 P) :: (nat_lit 725, o43 P) :: (nat_lit 727, o978 P) :: (nat_lit 728, o43 P) :: (nat_lit 730, o981 P) :: (nat_lit 731, o982 P) :: (nat_lit 732, o43 P) :: (nat_lit 734, o985 P) :: (nat_lit 735, o43 P) :: (nat_lit 737, o988 P) :: (nat_lit 738, o989 P) :: (nat_lit 739, o43 P) :: (nat_lit 741, o992 P) :: (nat_lit 742, o43 P) :: (nat_lit 744, o995 P) :: (nat_lit 745, o996 P) :: (nat_lit 746, o43 P) :: (nat_lit 748, o999 P) :: (nat_lit 749, o43 P) :: (nat_lit 751, o1002 P) :: (nat_lit 752, o1003 P) :: (nat_lit 753, o43 P) :: (nat_lit 756, o1007 P) :: (nat_lit 757, o1008 P) :: (nat_lit 758, o1009 P) :: (nat_lit 759, o1010 P) :: (nat_lit 760, o1011 P) :: (nat_lit 761, o1012 P) :: (nat_lit 762, o1013 P) :: (nat_lit 765, o43 P) :: (nat_lit 767, o1020 P) :: (nat_lit 768, o43 P) :: (nat_lit 770, o1023 P) :: (nat_lit 771, o1024 P) :: (nat_lit 772, o43 P) :: (nat_lit 774, o1027 P) :: (nat_lit 775, o43 P) :: (nat_lit 777, o1030 P) :: (nat_lit 778, o1031 P) :: (nat_lit 779, o43 P) :: (nat_lit 782, o1035 P) :: (nat_lit 783, o1036 P) :: (nat_lit 784, o43 P) :: (nat_lit 786, o1039 P) :: (nat_lit 787, o43 P) :: (nat_lit 789, o1042 P) :: (nat_lit 790, o1043 P) :: (nat_lit 791, o43 P) :: (nat_lit 794, o1047 P) :: (nat_lit 795, o1048 P) :: []
end Hd
open Hd
noncomputable def K : Params → Frag := by
  refine' (?F : (x : Params → Frag) → x = Ksrc → Params → Frag) _ ?h
  case F => exact fun x _ => x
  case h =>
    delta Ksrc
    delta o98 o1016 o43 o53 o56 o57 o58 o72 o75 o76 o79 o82 o83 o84 o85 o86 o87 o88 o93 o96 o97 o101 o108 o111 o114 o115 o118 o121 o122 o123 o124 o146 o126 o132 o140 o141 o155 o156 o168 o171 o174 o175 o178 o181 o182 o183 o186 o189 o190 o193 o196 o197 o200 o203 o204 o207 o210 o211 o214 o217 o218 o221 o224 o225 o226 o229 o232 o233 o236 o239 o240 o243 o246 o247 o250 o253 o254 o257 o260 o261 o264 o267 o268 o271 o274 o275 o278 o281 o282 o283 o284 o285 o286 o287 o382 o384 o385 o386 o390 o404 o407 o408 o409 o410 o411 o412 o413 o418 o421 o422 o425 o428 o429 o432 o435 o436 o439 o442 o443 o455 o458 o459 o462 o465 o466 o469 o472 o473 o476 o479 o480 o483 o486 o487 o488 o491 o494 o495 o498 o501 o502 o505 o508 o509 o512 o515 o516 o519 o522 o523 o526 o529 o530 o533 o536 o537 o540 o543 o544 o547 o550 o551 o554 o557 o558 o561 o564 o565 o568 o571 o572 o575 o578 o579 o582 o585 o586 o589 o592 o593 o594 o595 o596 o597 o598 o694 o697 o698 o701 o704 o705 o706 o707 o710 o713 o714 o717 o720 o721 o724 o727 o728 o731 o734 o735 o738 o741 o742 o745 o748 o749 o752 o755 o756 o759 o762 o763 o766 o769 o770 o775 o778 o779 o782 o785 o786 o789 o792 o793 o796 o799 o800 o803 o806 o807 o810 o813 o814 o817 o820 o821 o824 o827 o828 o831 o834 o835 o838 o841 o842 o845 o848 o849 o852 o855 o856 o859 o862 o863 o868 o871 o872 o875 o878 o879 o891 o894 o895 o898 o901 o902 o905 o908 o909 o912 o915 o916 o919 o922 o923 o926 o929 o930 o931 o932 o933 o934 o935 o947 o950 o953 o954 o957 o960 o961 o964 o967 o968 o971 o974 o975 o978 o981 o982 o985 o988 o989 o992 o995 o996 o999 o1002 o1003 o1007 o1008 o1009 o1010 o1011 o1012 o1013 o1020 o1023 o1024 o1027 o1030 o1031 o1035 o1036 o1039 o1042 o1043 o1047 o1048
    delta C F G T B D
    delta e s S I
    delta dE a_0 a_10_0 a_10_1 a_11 a_12_0 a_12_1 a_15_0 a_15_1 a_15_10 a_15_11 a_15_12 a_15_13 a_15_14 a_15_15 a_15_2 a_15_3 a_15_4 a_15_5 a_15_6 a_15_7 a_15_8 a_15_9 a_27_0 a_28 a_29 a_30 a_31 a_32_0 a_32_1 a_32_10 a_32_11 a_32_12 a_32_13 a_32_14 a_32_15 a_32_16 a_32_17 a_32_18 a_32_19 a_32_2 a_32_3 a_32_4 a_32_5 a_32_6 a_32_7 a_32_8 a_32_9 a_33 a_34 a_39 a_40 a_41 a_42 a_43 a_44 a_45 a_46 a_47 a_50 a_51 a_52 a_53 a_54 a_55 a_56 a_57 a_58 a_59 a_60 a_61 a_62 a_63 a_64 a_65_0 a_65_1 a_65_2 a_65_3 a_65_4 a_65_5 a_66_0 a_66_1 a_66_2 a_66_3 a_66_4 a_66_5 a_66_6 a_66_7 a_66_8 a_68 a_69 a_70 a_71 a_72 b_0 b_10_0 b_10_1 b_11 b_12_0 b_12_1 b_15_0 b_15_1 b_15_10 b_15_11 b_15_12 b_15_13 b_15_14 b_15_15 b_15_2 b_15_3 b_15_4 b_15_5 b_15_6 b_15_7 b_15_8 b_15_9 b_27_0 b_28 b_29 b_30 b_31 b_32_0 b_32_1 b_32_10 b_32_11 b_32_12 b_32_13 b_32_14 b_32_15 b_32_16 b_32_17 b_32_18 b_32_19 b_32_2 b_32_3 b_32_4 b_32_5 b_32_6 b_32_7 b_32_8 b_32_9 b_33 b_34 b_39 b_40 b_41 b_42 b_43 b_44 b_45 b_46 b_47 b_50 b_51 b_52 b_53 b_54 b_55 b_56 b_57 b_58 b_59 b_60 b_61 b_62 b_63 b_64 b_65_0 b_65_1 b_65_2 b_65_3 b_65_4 b_65_5 b_66_0 b_66_1 b_66_2 b_66_3 b_66_4 b_66_5 b_66_6 b_66_7 b_66_8 b_68 b_69 b_70 b_71 b_72 s_0 s_10_0 s_10_1 s_11 s_12_0 s_12_1 s_15_0 s_15_1 s_15_10 s_15_11 s_15_12 s_15_13 s_15_14 s_15_15 s_15_2 s_15_3 s_15_4 s_15_5 s_15_6 s_15_7 s_15_8 s_15_9 s_27_0 s_28 s_29 s_30 s_31 s_32_0 s_32_1 s_32_10 s_32_11 s_32_12 s_32_13 s_32_14 s_32_15 s_32_16 s_32_17 s_32_18 s_32_19 s_32_2 s_32_3 s_32_4 s_32_5 s_32_6 s_32_7 s_32_8 s_32_9 s_33 s_34 s_39 s_40 s_41 s_42 s_43 s_44 s_45 s_46 s_47 s_50 s_51 s_52 s_53 s_54 s_55 s_56 s_57 s_58 s_59 s_60 s_61 s_62 s_63 s_64 s_65_0 s_65_1 s_65_2 s_65_3 s_65_4 s_65_5 s_66_0 s_66_1 s_66_2 s_66_3 s_66_4 s_66_5 s_66_6 s_66_7 s_66_8 s_68 s_69 s_70 s_71 s_72
    exact rfl
end
end Mine
end
section
open PySem PySem.W PyProof.Rows
set_option maxHeartbeats 0
namespace Mine
open Hd

abbrev PW : Program := PySem.Challenge.pw_qd0072_01
noncomputable def env0 : Env := { scope := PySem.Challenge.pw_qd0072_01.main.scope, locals := mainNs, globals := mainNs, cells := [], code := .ref 13, frame := some 14 }
noncomputable def c0 : Code := .body (behindTheImports PySem.Challenge.pw_qd0072_01) env0
noncomputable def sts (a n : Nat) : List Stmt := ((behindTheImports PySem.Challenge.pw_qd0072_01).drop a).take n
abbrev B0 : List Frame := [topFrame ⟨0, 0, 0, 0⟩]
noncomputable def St (t : Params → BT) (n k : Nat) (w : World) (os : OsState) : SharedT := ⟨t w.params, n, {}, #[], {}, k, os⟩
theorem eSeg : @segRunT = PySem.W.Fast.tw10110043849684766642 := PySem.W.Fast.te10110043849684766642
theorem eRun : @segRun = PySem.W.Fast.tw14374325043358763698 := PySem.W.Fast.te14374325043358763698
theorem eTop : @topRun = PySem.W.Fast.tw14082659384304107361 := PySem.W.Fast.te14082659384304107361
theorem eGo : @topGo = PySem.W.Fast.tw15667345088766844465 := PySem.W.Fast.te15667345088766844465
theorem eDen : @denote = PySem.W.Fast.tw11892475500146522536 := PySem.W.Fast.te11892475500146522536
theorem eTab : treeTable = PySem.W.Fast.tw14364793385576792824 := PySem.W.Fast.te14364793385576792824
theorem q1f (w : World) : (fun os => PySem.W.Fast.tw10110043849684766642 PySem.W.Fast.tw14364793385576792824 PW (w.withFollow "special-get-raises" false) 11 (some (.ref 6)) 1 249 (St tree_47 15 187 (w.withFollow "special-get-raises" false) os) (piecesOf (sts 0 10) env0 c0 ⟨0, 0, 0, 0⟩ B0)) = fun os => some (.next, (St tree_58 23 236 (w.withFollow "special-get-raises" false) os), c0, ⟨12, 0, 12, 13⟩) := by kernel_rfl
theorem q1t (w : World) : (fun os => PySem.W.Fast.tw10110043849684766642 PySem.W.Fast.tw14364793385576792824 PW (w.withFollow "special-get-raises" true) 11 (some (.ref 6)) 1 249 (St tree_47 15 187 (w.withFollow "special-get-raises" true) os) (piecesOf (sts 0 10) env0 c0 ⟨0, 0, 0, 0⟩ B0)) = fun os => some (.next, (St tree_58 23 236 (w.withFollow "special-get-raises" true) os), c0, ⟨12, 0, 12, 13⟩) := by kernel_rfl
theorem q1 (w : World) : ∀ os, segRunT treeTable PW w 11 (some (.ref 6)) 1 249 (St tree_47 15 187 w os) (piecesOf (sts 0 10) env0 c0 ⟨0, 0, 0, 0⟩ B0) = some (.next, (St tree_58 23 236 w os), c0, ⟨12, 0, 12, 13⟩) := byRow2 "special-get-raises" (P := fun w => ∀ os, segRunT treeTable PW w 11 (some (.ref 6)) 1 249 (St tree_47 15 187 w os) (piecesOf (sts 0 10) env0 c0 ⟨0, 0, 0, 0⟩ B0) = some (.next, (St tree_58 23 236 w os), c0, ⟨12, 0, 12, 13⟩)) (fun w os => by rw [eSeg, eTab]; exact congrFun (q1f w) os) (fun w os => by rw [eSeg, eTab]; exact congrFun (q1t w) os) w
theorem q2a (w : World) : (fun os => PySem.W.Fast.tw10110043849684766642 PySem.W.Fast.tw14364793385576792824 PW w 11 (some (.ref 6)) 1 292 (St tree_58 23 236 w os) (piecesOf (sts 10 2) env0 c0 ⟨12, 0, 12, 13⟩ B0)) = fun os => some (.next, (St tree_97 58 288 w os), c0, ⟨22, 0, 30, 45⟩) := by kernel_rfl
theorem q2 (w : World) : ∀ os, segRunT treeTable PW w 11 (some (.ref 6)) 1 292 (St tree_58 23 236 w os) (piecesOf (sts 10 2) env0 c0 ⟨12, 0, 12, 13⟩ B0) = some (.next, (St tree_97 58 288 w os), c0, ⟨22, 0, 30, 45⟩) := fun os => by rw [eSeg, eTab]; exact congrFun (q2a w) os
theorem q3a (w : World) : (fun os => PySem.W.Fast.tw10110043849684766642 PySem.W.Fast.tw14364793385576792824 PW w 11 (some (.ref 6)) 1 263 (St tree_97 58 288 w os) (piecesOf (sts 12 1) env0 c0 ⟨22, 0, 30, 45⟩ B0)) = fun os => some (.next, (St tree_128 86 326 w os), c0, ⟨31, 0, 39, 16⟩) := by kernel_rfl
theorem q3 (w : World) : ∀ os, segRunT treeTable PW w 11 (some (.ref 6)) 1 263 (St tree_97 58 288 w os) (piecesOf (sts 12 1) env0 c0 ⟨22, 0, 30, 45⟩ B0) = some (.next, (St tree_128 86 326 w os), c0, ⟨31, 0, 39, 16⟩) := fun os => by rw [eSeg, eTab]; exact congrFun (q3a w) os
theorem q4a (w : World) : (fun os => PySem.W.Fast.tw10110043849684766642 PySem.W.Fast.tw14364793385576792824 PW w 11 (some (.ref 6)) 1 214 (St tree_128 86 326 w os) (piecesOf (sts 13 1) env0 c0 ⟨31, 0, 39, 16⟩ B0)) = fun os => some (.next, (St tree_143 98 342 w os), c0, ⟨40, 0, 41, 8⟩) := by kernel_rfl
theorem q4 (w : World) : ∀ os, segRunT treeTable PW w 11 (some (.ref 6)) 1 214 (St tree_128 86 326 w os) (piecesOf (sts 13 1) env0 c0 ⟨31, 0, 39, 16⟩ B0) = some (.next, (St tree_143 98 342 w os), c0, ⟨40, 0, 41, 8⟩) := fun os => by rw [eSeg, eTab]; exact congrFun (q4a w) os
theorem q5a (w : World) : (fun os => PySem.W.Fast.tw10110043849684766642 PySem.W.Fast.tw14364793385576792824 PW w 11 (some (.ref 6)) 1 214 (St tree_143 98 342 w os) (piecesOf (sts 14 1) env0 c0 ⟨40, 0, 41, 8⟩ B0)) = fun os => some (.next, (St tree_158 110 358 w os), c0, ⟨42, 0, 43, 8⟩) := by kernel_rfl
theorem q5 (w : World) : ∀ os, segRunT treeTable PW w 11 (some (.ref 6)) 1 214 (St tree_143 98 342 w os) (piecesOf (sts 14 1) env0 c0 ⟨40, 0, 41, 8⟩ B0) = some (.next, (St tree_158 110 358 w os), c0, ⟨42, 0, 43, 8⟩) := fun os => by rw [eSeg, eTab]; exact congrFun (q5a w) os
theorem q6a (w : World) : (fun os => PySem.W.Fast.tw10110043849684766642 PySem.W.Fast.tw14364793385576792824 PW w 11 (some (.ref 6)) 1 717 (St tree_158 110 358 w os) (piecesOf (sts 15 1) env0 c0 ⟨42, 0, 43, 8⟩ B0)) = fun os => some (.next, (St tree_289 239 518 w os), c0, ⟨44, 0, 140, 19⟩) := by kernel_rfl
theorem q6 (w : World) : ∀ os, segRunT treeTable PW w 11 (some (.ref 6)) 1 717 (St tree_158 110 358 w os) (piecesOf (sts 15 1) env0 c0 ⟨42, 0, 43, 8⟩ B0) = some (.next, (St tree_289 239 518 w os), c0, ⟨44, 0, 140, 19⟩) := fun os => by rw [eSeg, eTab]; exact congrFun (q6a w) os
theorem q7f (w : World) : (fun os => PySem.W.Fast.tw10110043849684766642 PySem.W.Fast.tw14364793385576792824 PW (w.withFollow "special-get-raises" false) 11 (some (.ref 6)) 1 293 (St tree_289 239 518 (w.withFollow "special-get-raises" false) os) (piecesOf (sts 16 7) env0 c0 ⟨44, 0, 140, 19⟩ B0)) = fun os => some (.next, (St tree_386 244 581 (w.withFollow "special-get-raises" false) os), c0, ⟨147, 0, 147, 6⟩) := by kernel_rfl
theorem q7t (w : World) : (fun os => PySem.W.Fast.tw10110043849684766642 PySem.W.Fast.tw14364793385576792824 PW (w.withFollow "special-get-raises" true) 11 (some (.ref 6)) 1 293 (St tree_289 239 518 (w.withFollow "special-get-raises" true) os) (piecesOf (sts 16 7) env0 c0 ⟨44, 0, 140, 19⟩ B0)) = fun os => some (.next, (St tree_386 244 581 (w.withFollow "special-get-raises" true) os), c0, ⟨147, 0, 147, 6⟩) := by kernel_rfl
theorem q7 (w : World) : ∀ os, segRunT treeTable PW w 11 (some (.ref 6)) 1 293 (St tree_289 239 518 w os) (piecesOf (sts 16 7) env0 c0 ⟨44, 0, 140, 19⟩ B0) = some (.next, (St tree_386 244 581 w os), c0, ⟨147, 0, 147, 6⟩) := byRow2 "special-get-raises" (P := fun w => ∀ os, segRunT treeTable PW w 11 (some (.ref 6)) 1 293 (St tree_289 239 518 w os) (piecesOf (sts 16 7) env0 c0 ⟨44, 0, 140, 19⟩ B0) = some (.next, (St tree_386 244 581 w os), c0, ⟨147, 0, 147, 6⟩)) (fun w os => by rw [eSeg, eTab]; exact congrFun (q7f w) os) (fun w os => by rw [eSeg, eTab]; exact congrFun (q7t w) os) w
theorem q8f (w : World) : (fun os => PySem.W.Fast.tw10110043849684766642 PySem.W.Fast.tw14364793385576792824 PW (w.withFollow "special-get-raises" false) 11 (some (.ref 6)) 1 203 (St tree_386 244 581 (w.withFollow "special-get-raises" false) os) (piecesOf (sts 23 4) env0 c0 ⟨147, 0, 147, 6⟩ B0)) = fun os => some (.next, (St tree_390 245 621 (w.withFollow "special-get-raises" false) os), c0, ⟨151, 0, 151, 9⟩) := by kernel_rfl
theorem q8t (w : World) : (fun os => PySem.W.Fast.tw10110043849684766642 PySem.W.Fast.tw14364793385576792824 PW (w.withFollow "special-get-raises" true) 11 (some (.ref 6)) 1 203 (St tree_386 244 581 (w.withFollow "special-get-raises" true) os) (piecesOf (sts 23 4) env0 c0 ⟨147, 0, 147, 6⟩ B0)) = fun os => some (.next, (St tree_390 245 621 (w.withFollow "special-get-raises" true) os), c0, ⟨151, 0, 151, 9⟩) := by kernel_rfl
theorem q8 (w : World) : ∀ os, segRunT treeTable PW w 11 (some (.ref 6)) 1 203 (St tree_386 244 581 w os) (piecesOf (sts 23 4) env0 c0 ⟨147, 0, 147, 6⟩ B0) = some (.next, (St tree_390 245 621 w os), c0, ⟨151, 0, 151, 9⟩) := byRow2 "special-get-raises" (P := fun w => ∀ os, segRunT treeTable PW w 11 (some (.ref 6)) 1 203 (St tree_386 244 581 w os) (piecesOf (sts 23 4) env0 c0 ⟨147, 0, 147, 6⟩ B0) = some (.next, (St tree_390 245 621 w os), c0, ⟨151, 0, 151, 9⟩)) (fun w os => by rw [eSeg, eTab]; exact congrFun (q8f w) os) (fun w os => by rw [eSeg, eTab]; exact congrFun (q8t w) os) w
theorem q9a (w : World) : (fun os => PySem.W.Fast.tw10110043849684766642 PySem.W.Fast.tw14364793385576792824 PW w 11 (some (.ref 6)) 1 358 (St tree_390 245 621 w os) (piecesOf (sts 27 5) env0 c0 ⟨151, 0, 151, 9⟩ B0)) = fun os => some (.next, (St tree_443 294 697 w os), c0, ⟨176, 0, 202, 16⟩) := by kernel_rfl
theorem q9 (w : World) : ∀ os, segRunT treeTable PW w 11 (some (.ref 6)) 1 358 (St tree_390 245 621 w os) (piecesOf (sts 27 5) env0 c0 ⟨151, 0, 151, 9⟩ B0) = some (.next, (St tree_443 294 697 w os), c0, ⟨176, 0, 202, 16⟩) := fun os => by rw [eSeg, eTab]; exact congrFun (q9a w) os
theorem q10a (w : World) : (fun os => PySem.W.Fast.tw10110043849684766642 PySem.W.Fast.tw14364793385576792824 PW w 11 (some (.ref 6)) 1 849 (St tree_443 294 697 w os) (piecesOf (sts 32 1) env0 c0 ⟨176, 0, 202, 16⟩ B0)) = fun os => some (.next, (St tree_600 449 895 w os), c0, ⟨203, 0, 366, 26⟩) := by kernel_rfl
theorem q10 (w : World) : ∀ os, segRunT treeTable PW w 11 (some (.ref 6)) 1 849 (St tree_443 294 697 w os) (piecesOf (sts 32 1) env0 c0 ⟨176, 0, 202, 16⟩ B0) = some (.next, (St tree_600 449 895 w os), c0, ⟨203, 0, 366, 26⟩) := fun os => by rw [eSeg, eTab]; exact congrFun (q10a w) os
theorem q11a (w : World) : (fun os => PySem.W.Fast.tw10110043849684766642 PySem.W.Fast.tw14364793385576792824 PW w 11 (some (.ref 6)) 1 399 (St tree_600 449 895 w os) (piecesOf (sts 33 17) env0 c0 ⟨203, 0, 366, 26⟩ B0)) = fun os => some (.next, (St tree_770 528 1005 w os), c0, ⟨443, 0, 443, 20⟩) := by kernel_rfl
theorem q11 (w : World) : ∀ os, segRunT treeTable PW w 11 (some (.ref 6)) 1 399 (St tree_600 449 895 w os) (piecesOf (sts 33 17) env0 c0 ⟨203, 0, 366, 26⟩ B0) = some (.next, (St tree_770 528 1005 w os), c0, ⟨443, 0, 443, 20⟩) := fun os => by rw [eSeg, eTab]; exact congrFun (q11a w) os
theorem q12a (w : World) : (fun os => PySem.W.Fast.tw10110043849684766642 PySem.W.Fast.tw14364793385576792824 PW w 11 (some (.ref 6)) 1 392 (St tree_770 528 1005 w os) (piecesOf (sts 50 13) env0 c0 ⟨443, 0, 443, 20⟩ B0)) = fun os => some (.next, (St tree_863 619 1110 w os), c0, ⟨496, 0, 506, 38⟩) := by kernel_rfl
theorem q12 (w : World) : ∀ os, segRunT treeTable PW w 11 (some (.ref 6)) 1 392 (St tree_770 528 1005 w os) (piecesOf (sts 50 13) env0 c0 ⟨443, 0, 443, 20⟩ B0) = some (.next, (St tree_863 619 1110 w os), c0, ⟨496, 0, 506, 38⟩) := fun os => by rw [eSeg, eTab]; exact congrFun (q12a w) os
theorem q13a (w : World) : (fun os => PySem.W.Fast.tw10110043849684766642 PySem.W.Fast.tw14364793385576792824 PW w 11 (some (.ref 6)) 1 61 (St tree_863 619 1110 w os) (piecesOf (sts 63 2) env0 c0 ⟨496, 0, 506, 38⟩ B0)) = fun os => some (.next, (St tree_879 633 1126 w os), c0, ⟨510, 0, 520, 24⟩) := by kernel_rfl
theorem q13 (w : World) : ∀ os, segRunT treeTable PW w 11 (some (.ref 6)) 1 61 (St tree_863 619 1110 w os) (piecesOf (sts 63 2) env0 c0 ⟨496, 0, 506, 38⟩ B0) = some (.next, (St tree_879 633 1126 w os), c0, ⟨510, 0, 520, 24⟩) := fun os => by rw [eSeg, eTab]; exact congrFun (q13a w) os
theorem q14a (w : World) : (fun os => PySem.W.Fast.tw10110043849684766642 PySem.W.Fast.tw14364793385576792824 PW w 11 (some (.ref 6)) 1 393 (St tree_879 633 1126 w os) (piecesOf (sts 65 1) env0 c0 ⟨510, 0, 520, 24⟩ B0)) = fun os => some (.next, (St tree_937 689 1205 w os), c0, ⟨521, 0, 553, 31⟩) := by kernel_rfl
theorem q14 (w : World) : ∀ os, segRunT treeTable PW w 11 (some (.ref 6)) 1 393 (St tree_879 633 1126 w os) (piecesOf (sts 65 1) env0 c0 ⟨510, 0, 520, 24⟩ B0) = some (.next, (St tree_937 689 1205 w os), c0, ⟨521, 0, 553, 31⟩) := fun os => by rw [eSeg, eTab]; exact congrFun (q14a w) os
theorem q15a (w : World) : (fun os => PySem.W.Fast.tw10110043849684766642 PySem.W.Fast.tw14364793385576792824 PW w 11 (some (.ref 6)) 1 503 (St tree_937 689 1205 w os) (piecesOf (sts 66 1) env0 c0 ⟨521, 0, 553, 31⟩ B0)) = fun os => some (.next, (St tree_1015 765 1323 w os), c0, ⟨554, 0, 659, 55⟩) := by kernel_rfl
theorem q15 (w : World) : ∀ os, segRunT treeTable PW w 11 (some (.ref 6)) 1 503 (St tree_937 689 1205 w os) (piecesOf (sts 66 1) env0 c0 ⟨521, 0, 553, 31⟩ B0) = some (.next, (St tree_1015 765 1323 w os), c0, ⟨554, 0, 659, 55⟩) := fun os => by rw [eSeg, eTab]; exact congrFun (q15a w) os
theorem q16a (w : World) : (fun os => PySem.W.Fast.tw10110043849684766642 PySem.W.Fast.tw14364793385576792824 PW w 11 (some (.ref 6)) 1 159 (St tree_1015 765 1323 w os) (piecesOf (sts 67 6) env0 c0 ⟨554, 0, 659, 55⟩ B0)) = fun os => some (.next, (St tree_1048 796 1368 w os), c0, ⟨700, 0, 704, 79⟩) := by kernel_rfl
theorem q16 (w : World) : ∀ os, segRunT treeTable PW w 11 (some (.ref 6)) 1 159 (St tree_1015 765 1323 w os) (piecesOf (sts 67 6) env0 c0 ⟨554, 0, 659, 55⟩ B0) = some (.next, (St tree_1048 796 1368 w os), c0, ⟨700, 0, 704, 79⟩) := fun os => by rw [eSeg, eTab]; exact congrFun (q16a w) os
theorem qpa (w : World) : (fun os => PySem.W.Fast.tw15667345088766844465 PySem.W.Fast.tw14364793385576792824 PW w 11 (some (.ref 6)) 12 ⟨boot_heap w.params, Array.mk [], boot_drawn, boot_toks, os⟩ (topStub PW)) = fun os => some (((⟨heap_46 w.params, #[], {}, 187, os⟩ : Shared)), ⟨PySem.W.Fast.tw11892475500146522536 PySem.W.Fast.tw14364793385576792824 c0, c0, ⟨0, 0, 0, 0⟩, B0⟩) := by kernel_rfl
theorem qp (w : World) (os : OsState) : topGo treeTable PW w 11 (some (.ref 6)) 12 ⟨boot_heap w.params, Array.mk [], boot_drawn, boot_toks, os⟩ (topStub PW) = some (⟨heap_46 w.params, #[], {}, 187, os⟩, ⟨denote treeTable c0, c0, ⟨0, 0, 0, 0⟩, B0⟩) := by rw [eGo, eDen, eTab]; exact congrFun (qpa w) os
theorem qba (w : World) : (fun os => PySem.W.Fast.tw14374325043358763698 PySem.W.Fast.tw14364793385576792824 PW w 11 (some (.ref 6)) 1 1 ⟨heap_46 w.params, #[], {}, 187, os⟩ (blockOf (behindTheImports PW) env0 c0 ⟨0, 0, 0, 0⟩ B0)) = fun os => some (.next, (St tree_47 15 187 w os).abs, c0, ⟨0, 0, 0, 0⟩) := by kernel_rfl
theorem qb (w : World) (os : OsState) : segRun treeTable PW w 11 (some (.ref 6)) 1 1 ⟨heap_46 w.params, #[], {}, 187, os⟩ (blockOf (behindTheImports PW) env0 c0 ⟨0, 0, 0, 0⟩ B0) = some (.next, (St tree_47 15 187 w os).abs, c0, ⟨0, 0, 0, 0⟩) := by rw [eRun, eTab]; exact congrFun (qba w) os
theorem qfa (w : World) : (fun os => PySem.W.Fast.tw14082659384304107361 PySem.W.Fast.tw14364793385576792824 PW w 11 (some (.ref 6)) 2 (St tree_1048 796 1368 w os).abs ⟨doneF .next, c0, ⟨700, 0, 704, 79⟩, B0⟩) = fun os => some (⟨heap_1049 w.params, #[], {}, 1368, os⟩ : Shared) := by kernel_rfl
theorem qf (w : World) (os : OsState) : topRun treeTable PW w 11 (some (.ref 6)) 2 (St tree_1048 796 1368 w os).abs ⟨doneF .next, c0, ⟨700, 0, 704, 79⟩, B0⟩ = some ⟨heap_1049 w.params, #[], {}, 1368, os⟩ := by rw [eTop, eTab]; exact congrFun (qfa w) os
theorem body_split : behindTheImports PW = (sts 0 10 ++ (sts 10 2 ++ (sts 12 1 ++ (sts 13 1 ++ (sts 14 1 ++ (sts 15 1 ++ (sts 16 7 ++ (sts 23 4 ++ (sts 27 5 ++ (sts 32 1 ++ (sts 33 17 ++ (sts 50 13 ++ (sts 63 2 ++ (sts 65 1 ++ (sts 66 1 ++ (sts 67 6 ++ [])))))))))))))))) := by kernel_rfl
theorem run_rest (w : World) (os : OsState) : topRun treeTable PW w 11 (some (.ref 6)) (249 + (292 + (263 + (214 + (214 + (717 + (293 + (203 + (358 + (849 + (399 + (392 + (61 + (393 + (503 + (159 + 2)))))))))))))))) (St tree_47 15 187 w os).abs (restOf (sts 0 10 ++ (sts 10 2 ++ (sts 12 1 ++ (sts 13 1 ++ (sts 14 1 ++ (sts 15 1 ++ (sts 16 7 ++ (sts 23 4 ++ (sts 27 5 ++ (sts 32 1 ++ (sts 33 17 ++ (sts 50 13 ++ (sts 63 2 ++ (sts 65 1 ++ (sts 66 1 ++ (sts 67 6 ++ [])))))))))))))))) env0 c0 ⟨0, 0, 0, 0⟩ B0) = some ⟨heap_1049 w.params, #[], {}, 1368, os⟩ := (piece_app (segRun_of (q1 w os)) (piece_app (segRun_of (q2 w os)) (piece_app (segRun_of (q3 w os)) (piece_app (segRun_of (q4 w os)) (piece_app (segRun_of (q5 w os)) (piece_app (segRun_of (q6 w os)) (piece_app (segRun_of (q7 w os)) (piece_app (segRun_of (q8 w os)) (piece_app (segRun_of (q9 w os)) (piece_app (segRun_of (q10 w os)) (piece_app (segRun_of (q11 w os)) (piece_app (segRun_of (q12 w os)) (piece_app (segRun_of (q13 w os)) (piece_app (segRun_of (q14 w os)) (piece_app (segRun_of (q15 w os)) (piece_app (segRun_of (q16 w os)) (piece_nil (qf w os))))))))))))))))))
theorem run_all (w : World) (os : OsState) : topRun treeTable PW w 11 (some (.ref 6)) (12 + (1 + (249 + (292 + (263 + (214 + (214 + (717 + (293 + (203 + (358 + (849 + (399 + (392 + (61 + (393 + (503 + (159 + 2)))))))))))))))))) ⟨boot_heap w.params, Array.mk [], boot_drawn, boot_toks, os⟩ (topStub PW) = some ⟨heap_1049 w.params, #[], {}, 1368, os⟩ := by
  refine go_top (qp w os) (piece_block (qb w os) ?_)
  have h := run_rest w os
  rw [← body_split] at h
  exact h
end Mine
end
section
open PySem PySem.W PyProof.Rows
set_option maxHeartbeats 0
namespace Mine
open Hd
theorem e_seen : @PyProof.Rows.seen = PySem.W.Fast.tw5160383126252970620 := PySem.W.Fast.te5160383126252970620
theorem e_recsOf : @PyProof.Rows.recsOf = PySem.W.Fast.tw3399658132070893891 := PySem.W.Fast.te3399658132070893891
theorem e_ownsOf : @PyProof.Rows.ownsOf = PySem.W.Fast.tw5991557255702980513 := PySem.W.Fast.te5991557255702980513
theorem e_keysOk : @PySem.Heap.keysOk = PySem.W.Fast.tw10880121769531294198 := PySem.W.Fast.te10880121769531294198
theorem e_looseW : @PySem.W.looseW = PySem.W.Fast.tw821141287760084731 := PySem.W.Fast.te821141287760084731
theorem e_litsOf : @PyProof.Rows.litsOf = PySem.W.Fast.tw7409074990110511671 := PySem.W.Fast.te7409074990110511671
theorem e_clssOf : @PyProof.Rows.clssOf = PySem.W.Fast.tw13664370479719496447 := PySem.W.Fast.te13664370479719496447
theorem e_acc : @PySem.Heap.accountedOkI = PySem.W.Fast.tw14722251495701143533 := PySem.W.Fast.te14722251495701143533
theorem e_tablesOk : @PyProof.Rows.tablesOk = PySem.W.Fast.tw10994771534591457954 := PySem.W.Fast.te10994771534591457954
theorem e_tabsOk : @PyProof.Rows.tabsOk = PySem.W.Fast.tw479339242167458305 := PySem.W.Fast.te479339242167458305
theorem e_pinSeenD : @PySem.pinSeenD = PySem.W.Fast.tw16090120013241838585 := PySem.W.Fast.te16090120013241838585
theorem e_drecsOf : @PyProof.Rows.drecsOf = PySem.W.Fast.tw3247288618530077131 := PySem.W.Fast.te3247288618530077131
theorem e_plainSeenE : @PyProof.Rows.plainSeenE = PySem.W.Fast.tw2386780881361962483 := PySem.W.Fast.te2386780881361962483
theorem e_plainSeenD : @PyProof.Rows.plainSeenD = PySem.W.Fast.tw11698064438423848299 := PySem.W.Fast.te11698064438423848299
theorem e_wideSeen : @PySem.W.wideSeen = PySem.W.Fast.tw7317090234206586261 := PySem.W.Fast.te7317090234206586261
theorem e_clsSeenW : @PySem.W.clsSeenW = PySem.W.Fast.tw7369524293546568484 := PySem.W.Fast.te7369524293546568484
theorem e_imps : @PySem.importedModules = PySem.W.Fast.tw5923862056798008813 := PySem.W.Fast.te5923862056798008813
theorem e_lawSaid : @PySem.W.OpenLaw.wellSaid = PySem.W.Fast.tw9446332074065402090 := PySem.W.Fast.te9446332074065402090
theorem e_nsMap : @PySem.Heap.nsMap = PySem.W.Fast.tw8920871248978507458 := PySem.W.Fast.te8920871248978507458
noncomputable def vw : Program := view PySem.Challenge.pw_qd0072_01 [0, 2, 3, 4, 5, 6, 7, 8, 9, 10, 11, 12, 13, 14, 15, 17, 18, 19, 20, 21, 22, 23, 24, 25, 26, 27, 28, 29, 30, 31, 32, 33, 34, 36, 37, 38, 39, 40, 41, 42, 43, 44, 45, 46, 47, 49, 50, 51, 52, 53, 54, 55, 56, 57, 58, 59, 60, 61, 62, 63, 64, 65, 66, 68, 69, 70, 71, 72]
noncomputable def loose0 : List Str := [.ofString "LETTERS", .ofString "NAME_SIGNS", .ofString "HEX_SIGNS", .ofString "PLAIN_ESCAPES", .ofString "ToolError", .ofString "RESERVED", .ofString "LEVELS", .ofString "FUNCTIONS"]
noncomputable def lv0 : List (Str × WData) := [(.ofString "LETTERS", (.str ⟨#[97, 98, 99, 100, 101, 102, 103, 104, 105, 106, 107, 108, 109, 110, 111, 112, 113, 114, 115, 116, 117, 118, 119, 120, 121, 122, 65, 66, 67, 68, 69, 70, 71, 72, 73, 74, 75, 76, 77, 78, 79, 80, 81, 82, 83, 84, 85, 86, 87, 88, 89, 90]⟩)), (.ofString "NAME_SIGNS", (.str ⟨#[97, 98, 99, 100, 101, 102, 103, 104, 105, 106, 107, 108, 109, 110, 111, 112, 113, 114, 115, 116, 117, 118, 119, 120, 121, 122, 65, 66, 67, 68, 69, 70, 71, 72, 73, 74, 75, 76, 77, 78, 79, 80, 81, 82, 83, 84, 85, 86, 87, 88, 89, 90, 95, 48, 49, 50, 51, 52, 53, 54, 55, 56, 57]⟩)), (.ofString "HEX_SIGNS", (.str ⟨#[48, 49, 50, 51, 52, 53, 54, 55, 56, 57, 97, 98, 99, 100, 101, 102, 65, 66, 67, 68, 69, 70]⟩)), (.ofString "RESERVED", .tuple [(.str ⟨#[105, 102]⟩), (.str ⟨#[101, 108, 115, 101]⟩), (.str ⟨#[119, 104, 105, 108, 101]⟩), (.str ⟨#[121, 121, 101, 114, 114, 111, 107]⟩), (.str ⟨#[121, 121, 99, 108, 101, 97, 114, 105, 110]⟩), (.str ⟨#[89, 89, 69, 82, 82, 79, 82]⟩), (.str ⟨#[89, 89, 65, 66, 79, 82, 84]⟩), (.str ⟨#[89, 89, 65, 67, 67, 69, 80, 84]⟩)])]
noncomputable def Xt0 (s : Shared) : Bool := xlAt vw lv0 s && recOk (RowW.records PySem.Challenge.rw_qd0072_01.row.toRowW) s
noncomputable def asK : List Addr := [2, 3, 15, 17, 18, 20, 21, 22, 30, 32, 33, 35, 36, 37, 39, 40, 42, 43, 44, 45, 46, 47, 48, 51, 53, 54, 56, 57, 58, 65, 66, 68, 69, 71, 72, 73, 75, 76, 78, 79, 80, 81, 82, 83, 86, 93, 94, 95, 98, 105, 106, 107, 117, 118, 120, 121, 123, 124, 125, 127, 128, 130, 131, 132, 133, 135, 136, 138, 139, 140, 142, 143, 145, 146, 147, 149, 150, 152, 153, 154, 156, 157, 159, 160, 161, 163, 164, 166, 167, 168, 170, 171, 173, 174, 175, 176, 178, 179, 181, 182, 183, 185, 186, 188, 189, 190, 192, 193, 195, 196, 197, 199, 200, 202, 203, 204, 206, 207, 209, 210, 211, 213, 214, 216, 217, 218, 220, 221, 223, 224, 225, 227, 228, 230, 231, 232, 233, 234, 235, 236, 239, 241, 242, 243, 244, 252, 254, 255, 257, 258, 259, 260, 261, 262, 263, 266, 268, 269, 271, 272, 273, 275, 276, 278, 279, 280, 282, 283, 285, 286, 287, 289, 290, 292, 293, 301, 303, 304, 306, 307, 308, 310, 311, 313, 314, 315, 317, 318, 320, 321, 322, 324, 325, 327, 328, 329, 331, 332, 334, 335, 336, 337, 339, 340, 342, 343, 344, 346, 347, 349, 350, 351, 353, 354, 356, 357, 358, 360, 361, 363, 364, 365, 367, 368, 370, 371, 372, 374, 375, 377, 378, 379, 381, 382, 384, 385, 386, 388, 389, 391, 392, 393, 395, 396, 398, 399, 400, 402, 403, 405, 406, 407, 409, 410, 412, 413, 414, 416, 417, 419, 420, 421, 423, 424, 426, 427, 428, 430, 431, 433, 434, 435, 437, 438, 440, 441, 442, 443, 444, 445, 446, 449, 451, 452, 454, 455, 456, 458, 459, 461, 462, 463, 464, 465, 467, 468, 470, 471, 472, 474, 475, 477, 478, 479, 481, 482, 484, 485, 486, 488, 489, 491, 492, 493, 495, 496, 498, 499, 500, 502, 503, 505, 506, 507, 509, 510, 512, 513, 514, 516, 517, 519, 520, 521, 523, 524, 526, 527, 528, 530, 531, 533, 534, 535, 537, 538, 540, 541, 542, 544, 545, 547, 548, 549, 551, 552, 554, 555, 556, 558, 559, 561, 562, 563, 565, 566, 568, 569, 570, 572, 573, 575, 576, 577, 579, 580, 582, 583, 584, 586, 587, 589, 590, 591, 593, 594, 596, 597, 598, 600, 601, 603, 604, 605, 607, 608, 610, 611, 612, 614, 615, 617, 618, 619, 621, 622, 624, 625, 626, 628, 629, 631, 632, 640, 642, 643, 645, 646, 647, 649, 650, 652, 653, 654, 656, 657, 659, 660, 661, 663, 664, 666, 667, 668, 670, 671, 673, 674, 675, 677, 678, 680, 681, 682, 683, 684, 685, 686, 696, 697, 699, 700, 702, 703, 704, 706, 707, 709, 710, 711, 713, 714, 716, 717, 718, 720, 721, 723, 724, 725, 727, 728, 730, 731, 732, 734, 735, 737, 738, 739, 741, 742, 744, 745, 746, 748, 749, 751, 752, 753, 756, 757, 758, 759, 760, 761, 762, 765, 767, 768, 770, 771, 772, 774, 775, 777, 778, 779, 782, 783, 784, 786, 787, 789, 790, 791, 794, 795]
theorem asK_ok (P : Params) : asK = (K P).map (·.1) := by kernel_rfl
noncomputable def hk0 : Hook := kmHook K asK asK_ok [780]
noncomputable def sF (w : World) (os : OsState) : Shared := ⟨heap_1049 w.params, #[], {}, 1368, os⟩
theorem k1a (w : World) : (fun os => (staticsOk (PySem.W.Fast.tw5923862056798008813 PW.main.body) (boot_heap w.params) (heap_1049 w.params) && namesBound PW (heap_1049 w.params) && gensDone (sF w os) && laidKept (boot_heap w.params) (heap_1049 w.params))) = fun os => true := by kernel_rfl
theorem k1 (w : World) (os : OsState) : (staticsOk (PySem.importedModules PW.main.body) (boot_heap w.params) (heap_1049 w.params) && namesBound PW (heap_1049 w.params) && gensDone (sF w os) && laidKept (boot_heap w.params) (heap_1049 w.params)) = true := by rw [e_imps]; exact congrFun (k1a w) os
theorem k2a (w : World) : (fun os => PySem.W.Fast.tw5160383126252970620 ((PySem.W.Fast.tw3399658132070893891 vw).map (·.name)) (PySem.W.Fast.tw5991557255702980513 vw) [] { sF w os with gens := #[] }) = fun os => PyProof.Rows.expectedOf vw := by kernel_rfl
theorem k2 (w : World) (os : OsState) : PyProof.Rows.seen ((PyProof.Rows.recsOf vw).map (·.name)) (PyProof.Rows.ownsOf vw) [] { sF w os with gens := #[] } = PyProof.Rows.expectedOf vw := by rw [e_seen, e_recsOf, e_ownsOf]; exact congrFun (k2a w) os
theorem k3a (w : World) : (fun os => (sF w os).heap.bltView) = fun os => bltViewBooted := by kernel_rfl
theorem k3 (w : World) (os : OsState) : (sF w os).heap.bltView = bltViewBooted := congrFun (k3a w) os
theorem k4a (w : World) : (fun os => (PySem.W.Fast.tw10880121769531294198 (sF w os).heap (PySem.W.Fast.tw821141287760084731 vw loose0) ((PySem.W.Fast.tw3399658132070893891 vw).map (·.name)) ((PySem.W.Fast.tw7409074990110511671 vw).map (·.1)) ((PySem.W.Fast.tw13664370479719496447 vw (PySem.W.Fast.tw821141287760084731 vw loose0)).map (·.name)) && PySem.W.Fast.tw14722251495701143533 (sF w os).heap (PySem.W.Fast.tw5923862056798008813 PW.main.body) && (sF w os).heap.isNs mainGlobals && (sF w os).heap.isNs builtinsNs && PySem.W.Fast.tw10994771534591457954 vw (sF w os).heap && Xt0 (sF w os) && (sF w os).gens.size == 0)) = fun os => true := by kernel_rfl
theorem k4 (w : World) (os : OsState) : (PySem.Heap.keysOk (sF w os).heap (PySem.W.looseW vw loose0) ((PyProof.Rows.recsOf vw).map (·.name)) ((PyProof.Rows.litsOf vw).map (·.1)) ((PyProof.Rows.clssOf vw (PySem.W.looseW vw loose0)).map (·.name)) && PySem.Heap.accountedOkI (sF w os).heap (PySem.importedModules PW.main.body) && (sF w os).heap.isNs mainGlobals && (sF w os).heap.isNs builtinsNs && PyProof.Rows.tablesOk vw (sF w os).heap && Xt0 (sF w os) && (sF w os).gens.size == 0) = true := by rw [e_keysOk, e_looseW, e_recsOf, e_litsOf, e_clssOf, e_acc, e_imps, e_tablesOk]; exact congrFun (k4a w) os
theorem k5a (w : World) : (fun os => PySem.W.Fast.tw479339242167458305 vw (sF w os)) = fun os => true := by kernel_rfl
theorem k5 (w : World) (os : OsState) : PyProof.Rows.tabsOk vw (sF w os) = true := by rw [e_tabsOk]; exact congrFun (k5a w) os
theorem k6a (w : World) : (fun os => PySem.W.Fast.tw16090120013241838585 vw (PySem.W.Fast.tw3247288618530077131 vw) (sF w os)) = fun os => pinGoodD (PySem.W.Fast.tw3247288618530077131 vw) := by kernel_rfl
theorem k6 (w : World) (os : OsState) : PySem.pinSeenD vw (PyProof.Rows.drecsOf vw) (sF w os) = pinGoodD (PyProof.Rows.drecsOf vw) := by rw [e_pinSeenD, e_drecsOf]; exact congrFun (k6a w) os
theorem k7a (w : World) : (fun os => PySem.W.Fast.tw2386780881361962483 vw (PySem.W.Fast.tw821141287760084731 vw loose0) (sF w os)) = fun os => PyProof.Rows.plainGoodE vw (PySem.W.Fast.tw821141287760084731 vw loose0) := by kernel_rfl
theorem k7 (w : World) (os : OsState) : PyProof.Rows.plainSeenE vw (PySem.W.looseW vw loose0) (sF w os) = PyProof.Rows.plainGoodE vw (PySem.W.looseW vw loose0) := by rw [e_plainSeenE, e_looseW]; exact congrFun (k7a w) os
theorem k8a (w : World) : (fun os => PySem.W.Fast.tw11698064438423848299 vw loose0 (sF w os)) = fun os => PyProof.Rows.plainGoodD vw loose0 := by kernel_rfl
theorem k8 (w : World) (os : OsState) : PyProof.Rows.plainSeenD vw loose0 (sF w os) = PyProof.Rows.plainGoodD vw loose0 := by rw [e_plainSeenD]; exact congrFun (k8a w) os
theorem k9a (w : World) : (fun os => PySem.W.Fast.tw7317090234206586261 vw (sF w os)) = fun os => wideGood vw := by kernel_rfl
theorem k9 (w : World) (os : OsState) : PySem.W.wideSeen vw (sF w os) = wideGood vw := by rw [e_wideSeen]; exact congrFun (k9a w) os
theorem k10a (w : World) : (fun os => PySem.W.Fast.tw7369524293546568484 vw loose0 (sF w os)) = fun os => clsGoodW vw loose0 := by kernel_rfl
theorem k10 (w : World) (os : OsState) : PySem.W.clsSeenW vw loose0 (sF w os) = clsGoodW vw loose0 := by rw [e_clsSeenW]; exact congrFun (k10a w) os
noncomputable def liveO : Obj → Option Obj
  | ⟨_, _, .freed, _⟩ => none
  | o => some o
theorem get_live (h : Heap) (a : Nat) : h.get? a = (h.objs.toList[a]?).bind liveO := by
  unfold Heap.get?
  rw [Array.getElem?_toList]
  cases h.objs[a]? with
  | none => rfl
  | some o => obtain ⟨c, d, da, sl⟩ := o; cases da <;> rfl
noncomputable def pickO : List Obj → Nat → List Nat → List (Option Obj)
  | [], _, as => as.map fun _ => none
  | _ :: _, _, [] => []
  | o :: r, i, a :: as => bif Nat.beq a i then liveO o :: pickO r (i + 1) as else pickO r (i + 1) (a :: as)
noncomputable def upFrom : Nat → List Nat → Bool
  | _, [] => true
  | i, a :: as => Nat.ble i a && upFrom (a + 1) as
theorem upFrom_le : ∀ {as : List Nat} {i b : Nat}, upFrom i as = true → b ∈ as → i ≤ b
  | a :: as, i, b, h, hb => by
    simp only [upFrom, Bool.and_eq_true] at h
    have h1 := Nat.le_of_ble_eq_true h.1
    rcases List.mem_cons.mp hb with rfl | hb
    · exact h1
    · have := upFrom_le h.2 hb; omega
theorem pickO_eq : ∀ (l : List Obj) (i : Nat) (as : List Nat), upFrom i as = true → pickO l i as = as.map fun a => (l[a - i]?).bind liveO
  | [], i, as, _ => by simp [pickO]
  | o :: r, i, [], _ => by simp [pickO]
  | o :: r, i, a :: as, h => by
    have h0 := h
    simp only [upFrom, Bool.and_eq_true] at h
    have h1 := Nat.le_of_ble_eq_true h.1
    have tl : ∀ {bs : List Nat}, (∀ b ∈ bs, i + 1 ≤ b) → (bs.map fun a => (r[a - (i + 1)]?).bind liveO) = bs.map fun a => ((o :: r)[a - i]?).bind liveO := fun hb => by
      apply List.map_congr_left
      intro b hm
      have := hb b hm
      rw [show b - i = (b - (i + 1)) + 1 from by omega, List.getElem?_cons_succ]
    by_cases e : a = i
    · subst e
      have h3 : pickO (o :: r) a (a :: as) = liveO o :: pickO r (a + 1) as := by simp [pickO]
      rw [h3, pickO_eq r (a + 1) as h.2, tl fun b hb => upFrom_le h.2 hb]
      simp
    · have hb : Nat.beq a i = false := by rw [← Bool.not_eq_true]; exact fun q => e (Nat.eq_of_beq_eq_true q)
      have h2 : upFrom (i + 1) (a :: as) = true := by
        simp only [upFrom, Bool.and_eq_true]
        exact ⟨Nat.ble_eq_true_of_le (by omega), h.2⟩
      have h3 : pickO (o :: r) i (a :: as) = pickO r (i + 1) (a :: as) := by simp [pickO, hb]
      rw [h3, pickO_eq r (i + 1) (a :: as) h2, tl fun b hb => upFrom_le h2 hb]
theorem asK_up : upFrom 0 asK = true := by kernel_rfl
theorem k11a (P : Params) : pickO (heap_1049 P).objs.toList 0 asK = (K P).map fun p => some p.2 := by kernel_rfl
theorem k11b (P : Params) : ([780] : List Nat).map (heap_1049 P).get? = [780].map fun _ => some (tabObj #[]) := by kernel_rfl
theorem k11 (w : World) (os : OsState) : hk0.obs (sF w os) = hk0.val w := by
  refine Prod.ext ?_ ?_
  · show asK.map (heap_1049 w.params).get? = (K w.params).map fun p => some p.2
    rw [← k11a, pickO_eq _ _ _ asK_up]
    exact List.map_congr_left fun a _ => get_live _ a
  · show ([780] : List Nat).map (heap_1049 w.params).get? = [780].map fun _ => some (tabObj #[])
    exact k11b w.params
end Mine
end
section
open PySem PySem.W PyProof.Rows
set_option maxHeartbeats 0
namespace Mine
open Hd
theorem said0 : OpenLaw.wellSaid PySem.Challenge.rw_qd0072_01 = true := by rw [e_lawSaid]; kernel_rfl
theorem op_eq : opening PW = plainProg PW.main.scope.names := by kernel_rfl
theorem fence_eq (s : Shared) : fenceModules? PW s = some s := by kernel_rfl
theorem size0 (w : World) : ((boot_heap w.params).isNs mainGlobals && (Array.mk [] : Array GenState).size == 0, (boot_heap w.params).objs.size, (boot_heap w.params).nsMap mainGlobals "__annotations__") = (true, 11, some (.ref 6)) := by rw [e_nsMap]; kernel_rfl
theorem looks0 (w : World) (os : OsState) : openSeen vw loose0 (importedModules PW.main.body) Xt0 true (sF w os) = openGood vw loose0 :=
  looks_pair (k2 w os) (looks_pair (k3 w os) (looks_pair (k4 w os) (looks_pair (k5 w os) (looks_pair (k6 w os) (looks_pair (k7 w os) (looks_pair (k8 w os) (looks_pair (k9 w os) (k10 w os))))))))
theorem left0 : LeftO PW vw loose0 Xt0 hk0.obs hk0.val 11212 :=
  LeftO.of_pieces (H₀ := boot_heap) (H₁ := heap_1049) (gs₀ := Array.mk []) (gs₁ := #[]) (d₀ := boot_drawn) (d₁ := {}) (k₀ := boot_toks) (k₁ := 1368) (m₀ := 11) (ann := some (.ref 6)) (M := 12 + (1 + (249 + (292 + (263 + (214 + (214 + (717 + (293 + (203 + (358 + (849 + (399 + (392 + (61 + (393 + (503 + (159 + 2))))))))))))))))))
    (boot_open op_eq (by decide) fence_eq) size0 run_all (by decide +kernel) (fun w => funext fun os => looks_pair (k1 w os) (looks_pair (looks0 w os) (k11 w os)))
end Mine
end
section
open PySem PySem.W PyProof.Rows
set_option maxHeartbeats 0
namespace Mine
open Hd
theorem hdw (walk : WalkO vw loose0 (XL vw lv0) hk0.says PySem.Challenge.rw_qd0072_01.row.toRowW ⟨.ofString "law", a_72, b_72, s_72, ⟨700, 0, 704, 79⟩⟩ [] fun f vs => call f vs) : PySem.Challenge.rw_qd0072_01.Holds := by

  refine holds_law said0 fun _ => ?_
  refine W.holds_open (r := PySem.Challenge.rw_qd0072_01.row) (q := vw) (loose := loose0) (Xt := Xt0) (XP := XL vw lv0) (Yf := hk0.obs) (Ya := hk0.val) (YP := hk0.says) (d := ⟨.ofString "law", a_72, b_72, s_72, ⟨700, 0, 704, 79⟩⟩) (kwd := []) (N := 11212) left0 hk0.of hk0.keeps (fun s e => xl_of s (Bool.and_eq_true_iff.mp e).1) XL.keeps (by kernel_rfl) (by kernel_rfl) (by kernel_rfl) (fun s e => recFacts_of (Bool.and_eq_true_iff.mp e).2) (by kernel_rfl) (by assumption) (by decide +kernel) ⟨rfl, rfl, rfl, rfl, rfl, by decide +kernel⟩ ?hw walk
  case hw => w_witness2
end Mine
end
open PySem PySem.W PySem.Calls PyProof.Rows
set_option maxHeartbeats 8000000
namespace Mine
theorem fill : PySem.Challenge.rw_qd0072_01 = PySem.Challenge.rw_qd0072_01 ∧ Mine.K = Mine.K := by
  k_fill
  exact ⟨rfl, rfl⟩
section
noncomputable abbrev Led := List (Addr × Obj)
/-- what a call of a def does, said once: from any frame, with a ledger `news`, it comes back with a value and a ledger that `Post` admits -/
noncomputable def Ctr (w : World) (f : Addr) (vs : List Value) (d u : Nat) (news : Led) (Post : Value → Led → Prop) : Prop :=
  ∀ (dp un : Nat) (gd : Option (List Code)) (cn : Str) (cs : Scope) (a : Addr) (ccd : Value) (cl : List (Str × Addr)) (outer : List Env) (A₀ : Around) (base h₀ : Heap) (L : Addr) (m : Str → Option Value) (s : Shared) (Q E : Value → Shared → Prop)
    (p : Program) (loose : List Str) (mean : ExcName → Option Value) (mg mb : Str → Option Value),
    Below A₀ base outer h₀ → Fr h₀ L s.heap m → (Mine.K w.params).In h₀ → News h₀ L s.heap news → Top p loose mean mg mb h₀ → cs.kind = .function → dp + d < recursionLimit → un + u < cLine →
    (∀ r news' h' tk', Post r news' → Fr h₀ L h' m → News h₀ L h' news' → Q r { s with heap := h', toks := tk' }) →
    wpAny (model PySem.Challenge.rw_qd0072_01.row.prog w) (ktrTop dp un gd cn cs L a ccd cl outer) (call (.ref f) vs) Q E s

section
variable {w : World} {f : Addr} {vs : List Value} {d u : Nat} {dp un : Nat} {gd : Option (List Code)} {cn : Str} {cs : Scope} {a : Addr} {ccd : Value} {cl : List (Str × Addr)} {outer : List Env} {A₀ : Around} {base h₀ : Heap} {L : Addr} {m : Str → Option Value} {s : Shared} {Q E : Value → Shared → Prop}
    {p : Program} {loose : List Str} {mean : ExcName → Option Value} {mg mb : Str → Option Value} {news : Led} {ι : Type}
theorem use0 {val : ι → Value} {P : ι → Prop} {more : ι → Led}
    (C : Ctr w f vs d u news (fun r news' => ∃ i, P i ∧ r = val i ∧ news' = more i ++ news))
    (B : Below A₀ base outer h₀) (F : Fr h₀ L s.heap m) (X : (Mine.K w.params).In h₀) (N : News h₀ L s.heap news) (T : Top p loose mean mg mb h₀) (hk : cs.kind = .function) (hd : dp + d < recursionLimit) (hu : un + u < cLine)
    (ret : ∀ i h' tk', P i → Fr h₀ L h' m → News h₀ L h' (more i ++ news) → Q (val i) { s with heap := h', toks := tk' }) :
    wpAny (model PySem.Challenge.rw_qd0072_01.row.prog w) (ktrTop dp un gd cn cs L a ccd cl outer) (call (.ref f) vs) Q E s := by
  refine C _ _ _ _ _ _ _ _ _ _ _ _ _ _ _ _ _ _ _ _ _ _ B F X N T hk hd hu ?_
  rintro r news' h' tk' ⟨i, hp, rfl, rfl⟩ F' N'
  exact ret i h' tk' hp F' N'
theorem use1 {val : ι → Value} {P : ι → Prop} {x : Addr} {o : Obj} {o' : ι → Obj} {reads : Led} {news' : ι → Led}
    (C : ∀ rest : Led, (∀ p ∈ rest, p.1 ≠ x) → Ctr w f vs d u ((x, o) :: (reads ++ rest)) (fun r l => ∃ i, P i ∧ r = val i ∧ l = (x, o' i) :: (reads ++ rest)))
    (B : Below A₀ base outer h₀) (F : Fr h₀ L s.heap m) (X : (Mine.K w.params).In h₀) (N : News h₀ L s.heap news) (T : Top p loose mean mg mb h₀) (hk : cs.kind = .function) (hd : dp + d < recursionLimit) (hu : un + u < cLine)
    (hx : (x, o) ∈ news) (hr : ∀ q ∈ reads, q ∈ news) (U : ∀ i, Upd x o (o' i) news (news' i))
    (ret : ∀ i h' tk', P i → Fr h₀ L h' m → News h₀ L h' (news' i) → Q (val i) { s with heap := h', toks := tk' }) :
    wpAny (model PySem.Challenge.rw_qd0072_01.row.prog w) (ktrTop dp un gd cn cs L a ccd cl outer) (call (.ref f) vs) Q E s := by
  let rest : Led := news.filter fun q => q.1 != x
  have hm : ∀ q ∈ rest, q ∈ news ∧ q.1 ≠ x := fun q hq => ⟨(List.mem_filter.mp hq).1, by simpa using (List.mem_filter.mp hq).2⟩
  have N0 : News h₀ L s.heap ((x, o) :: (reads ++ rest)) := by
    intro q hq
    rcases List.mem_cons.mp hq with rfl | hq
    · exact N _ hx
    · rcases List.mem_append.mp hq with hq | hq
      · exact N _ (hr q hq)
      · exact N _ (hm q hq).1
  refine C rest (fun q hq => (hm q hq).2) _ _ _ _ _ _ _ _ _ _ _ _ _ _ _ _ _ _ _ _ _ _ B F X N0 T hk hd hu ?_
  rintro r l h' tk' ⟨i, hp, rfl, rfl⟩ F' N'
  refine ret i h' tk' hp F' ?_
  obtain ⟨pre, post, e1, e2, h1, h2⟩ := (U i).split
  rw [e2]
  intro q hq
  rcases List.mem_append.mp hq with hq | hq
  · refine N' q (List.mem_cons_of_mem _ (List.mem_append_right _ ?_))
    exact List.mem_filter.mpr ⟨by rw [e1]; exact List.mem_append_left _ hq, by simpa using h1 q hq⟩
  · rcases List.mem_cons.mp hq with rfl | hq
    · exact N' _ (List.mem_cons_self)
    · refine N' q (List.mem_cons_of_mem _ (List.mem_append_right _ ?_))
      exact List.mem_filter.mpr ⟨by rw [e1]; exact List.mem_append_right _ (List.mem_cons_of_mem _ hq), by simpa using h2 q hq⟩
end

noncomputable abbrev en (w : World) (n : String) (t : Tok) (v : Value) : DictEntry := { hash := PyData.keyHash w.params (Str.ofString n), key := .str (Str.ofString n) t, val := v }
noncomputable abbrev tupOf (vs : List Value) : Obj := { cls := .type "tuple", data := .seq vs.toArray }
/-- a Frame's dict -/
noncomputable abbrev frD (w : World) (k1 k2 k3 k4 k5 k6 k7 k8 : Tok) (vx nx : Addr) (own : Value) (st : Addr) (steps : Int) (ts : Tok) (most : Int) (tm : Tok) : Obj :=
  dictOf [en w "values" k1 (.ref vx), en w "names" k2 (.ref nx), en w "control" k3 .none, en w "own" k4 own, en w "stack" k5 (.ref st), en w "steps" k6 (.int steps ts), en w "most" k7 (.int most tm), en w "is_left" k8 (.bool false)] 8
/-- the walk rests where a line of ours says so -/
noncomputable def Halt (P : Prop) : Prop := P
theorem Halt.out {P : Prop} (h : Halt P) : P := h
noncomputable abbrev kt (ks : List Tok) (i : Nat) : Tok := ks.getD i 0
noncomputable abbrev frK (w : World) (ks : List Tok) (vx nx : Addr) (own : Value) (st : Addr) (steps : Int) (ts : Tok) (most : Int) (tm : Tok) : Obj :=
  frD w (kt ks 0) (kt ks 1) (kt ks 2) (kt ks 3) (kt ks 4) (kt ks 5) (kt ks 6) (kt ks 7) vx nx own st steps ts most tm
theorem Halt.go {P : Prop} (h : P) : Halt P := h
theorem pick_from0 {l : List Value} {a : Int} (h : a = 0) : kms_pick l (some a) none = l := by
  subst h
  simp [kms_pick, kms_lo, kms_hi]
theorem pick_upto0 {l : List Value} {b : Int} (h : b = 0) : kms_pick l none (some b) = [] := by
  subst h
  simp [kms_pick, kms_lo, kms_hi]
section
variable {w : World} {f : Addr} {vs : List Value} {d u : Nat} {dp un : Nat} {gd : Option (List Code)} {cn : Str} {cs : Scope} {a : Addr} {ccd : Value} {cl : List (Str × Addr)} {outer : List Env} {A₀ : Around} {base h₀ : Heap} {L : Addr} {m : Str → Option Value} {s : Shared} {Q E : Value → Shared → Prop}
    {p : Program} {loose : List Str} {mean : ExcName → Option Value} {mg mb : Str → Option Value} {news : Led} {ι : Type}
/-- as use1, with new objects ahead -/
theorem use2 {val : ι → Value} {P : ι → Prop} {x : Addr} {o : Obj} {o' : ι → Obj} {reads : Led} {news' : ι → Led} {lo hi : ι → Addr} {more : ι → Led}
    (C : ∀ rest : Led, (∀ p ∈ rest, p.1 ≠ x) → Ctr w f vs d u ((x, o) :: (reads ++ rest)) (fun r l => ∃ i, P i ∧ AllLt (lo i) ((x, o) :: (reads ++ rest)) ∧ AllLt (hi i) ((x, o) :: (reads ++ rest)) ∧ r = val i ∧ l = more i ++ (x, o' i) :: (reads ++ rest)))
    (B : Below A₀ base outer h₀) (F : Fr h₀ L s.heap m) (X : (Mine.K w.params).In h₀) (N : News h₀ L s.heap news) (T : Top p loose mean mg mb h₀) (hk : cs.kind = .function) (hd : dp + d < recursionLimit) (hu : un + u < cLine)
    (hx : (x, o) ∈ news) (hr : ∀ q ∈ reads, q ∈ news) (U : ∀ i, Upd x o (o' i) news (news' i))
    (ret : ∀ i h' tk', P i → AllLt (lo i) news → AllLt (hi i) news → Fr h₀ L h' m → News h₀ L h' (more i ++ news' i) → Q (val i) { s with heap := h', toks := tk' }) :
    wpAny (model PySem.Challenge.rw_qd0072_01.row.prog w) (ktrTop dp un gd cn cs L a ccd cl outer) (call (.ref f) vs) Q E s := by
  let rest : Led := news.filter fun q => q.1 != x
  have hm : ∀ q ∈ rest, q ∈ news ∧ q.1 ≠ x := fun q hq => ⟨(List.mem_filter.mp hq).1, by simpa using (List.mem_filter.mp hq).2⟩
  have N0 : News h₀ L s.heap ((x, o) :: (reads ++ rest)) := by
    intro q hq
    rcases List.mem_cons.mp hq with rfl | hq
    · exact N _ hx
    · rcases List.mem_append.mp hq with hq | hq
      · exact N _ (hr q hq)
      · exact N _ (hm q hq).1
  refine C rest (fun q hq => (hm q hq).2) _ _ _ _ _ _ _ _ _ _ _ _ _ _ _ _ _ _ _ _ _ _ B F X N0 T hk hd hu ?_
  rintro r l h' tk' ⟨i, hp, hl, hl2, rfl, rfl⟩ F' N'
  have up : ∀ b, AllLt b ((x, o) :: (reads ++ rest)) → AllLt b news := fun b hl => allLt_of fun q hq => by
    by_cases e : q.1 = x
    · rw [e]; exact hl.1
    · exact kst_ltOf hl q (List.mem_cons_of_mem _ (List.mem_append_right _ (List.mem_filter.mpr ⟨hq, by simpa using e⟩)))
  refine ret i h' tk' hp (up _ hl) (up _ hl2) F' ?_
  obtain ⟨pre, post, e1, e2, h1, h2⟩ := (U i).split
  rw [e2]
  intro q hq
  rcases List.mem_append.mp hq with hq | hq
  · exact N' q (List.mem_append_left _ hq)
  refine N' q (List.mem_append_right _ ?_)
  rcases List.mem_append.mp hq with hq | hq
  · refine List.mem_cons_of_mem _ (List.mem_append_right _ ?_)
    exact List.mem_filter.mpr ⟨by rw [e1]; exact List.mem_append_left _ hq, by simpa using h1 q hq⟩
  · rcases List.mem_cons.mp hq with rfl | hq
    · exact List.mem_cons_self
    · refine List.mem_cons_of_mem _ (List.mem_append_right _ ?_)
      exact List.mem_filter.mpr ⟨by rw [e1]; exact List.mem_append_right _ (List.mem_cons_of_mem _ hq), by simpa using h2 q hq⟩
end
theorem tlen {prog : Program} {w : World} {A : Around} {E : Value → Shared → Prop} {s : Shared} {h₀ : Heap} {L t : Addr} {news : Led} {us : List Value} {k : Nat} {Q : Value → Shared → Prop} (N : News h₀ L s.heap news) (hm : (t, tupOf us) ∈ news) (e : us.length = k) (hfit : (k : Int) < 2 ^ 63)
    (h : Q (.int (k : Int) (s.toks + 1)) { s with toks := s.toks + 1 + 1 }) : wpAny (model prog w) A (call (.builtin "len") [.ref t]) Q E s := by
  have e2 : us.toArray.size = k := by rw [List.size_toArray, e]
  exact len_tuple (items := us.toArray) ⟨_, N.get hm, rfl, _, rfl⟩ (by rw [e2]; exact hfit) (by rw [e2]; exact h)
theorem tl_of {xs : List Value} : xs.toArray.toList = xs := by simp

section
variable {w : World} {f : Addr} {vs : List Value} {d u : Nat} {dp un : Nat} {gd : Option (List Code)} {cn : Str} {cs : Scope} {a : Addr} {ccd : Value} {cl : List (Str × Addr)} {outer : List Env} {A₀ : Around} {base h₀ : Heap} {L : Addr} {m : Str → Option Value} {s : Shared} {Q E : Value → Shared → Prop}
    {p : Program} {loose : List Str} {mean : ExcName → Option Value} {mg mb : Str → Option Value} {news : Led} {ι : Type}
/-- two objects changed -/
theorem use3 {val : ι → Value} {P : ι → Prop} {x y : Addr} {o q : Obj} {o' q' : ι → Obj} {reads : Led} {mid news' : ι → Led}
    (C : ∀ rest : Led, (∀ p ∈ rest, p.1 ≠ x) → (∀ p ∈ rest, p.1 ≠ y) → Ctr w f vs d u ((x, o) :: (y, q) :: (reads ++ rest)) (fun r l => ∃ i, P i ∧ r = val i ∧ l = (x, o' i) :: (y, q' i) :: (reads ++ rest)))
    (B : Below A₀ base outer h₀) (F : Fr h₀ L s.heap m) (X : (Mine.K w.params).In h₀) (N : News h₀ L s.heap news) (T : Top p loose mean mg mb h₀) (hk : cs.kind = .function) (hd : dp + d < recursionLimit) (hu : un + u < cLine)
    (hx : (x, o) ∈ news) (hy : (y, q) ∈ news) (hr : ∀ q ∈ reads, q ∈ news) (U : ∀ i, Upd x o (o' i) news (mid i)) (V : ∀ i, Upd y q (q' i) (mid i) (news' i))
    (ret : ∀ i h' tk', P i → Fr h₀ L h' m → News h₀ L h' (news' i) → Q (val i) { s with heap := h', toks := tk' }) :
    wpAny (model PySem.Challenge.rw_qd0072_01.row.prog w) (ktrTop dp un gd cn cs L a ccd cl outer) (call (.ref f) vs) Q E s := by
  let rest : Led := news.filter fun q => q.1 != x && q.1 != y
  have hm : ∀ q ∈ rest, q ∈ news ∧ q.1 ≠ x ∧ q.1 ≠ y := fun q hq => ⟨(List.mem_filter.mp hq).1, by simpa using (List.mem_filter.mp hq).2⟩
  have N0 : News h₀ L s.heap ((x, o) :: (y, q) :: (reads ++ rest)) := by
    intro z hz
    rcases List.mem_cons.mp hz with rfl | hz
    · exact N _ hx
    rcases List.mem_cons.mp hz with rfl | hz
    · exact N _ hy
    · rcases List.mem_append.mp hz with hz | hz
      · exact N _ (hr z hz)
      · exact N _ (hm z hz).1
  refine C rest (fun z hz => (hm z hz).2.1) (fun z hz => (hm z hz).2.2) _ _ _ _ _ _ _ _ _ _ _ _ _ _ _ _ _ _ _ _ _ _ B F X N0 T hk hd hu ?_
  rintro r l h' tk' ⟨i, hp, rfl, rfl⟩ F' N'
  refine ret i h' tk' hp F' ?_
  obtain ⟨pre, post, e1, e2, h1, h2⟩ := (V i).split
  obtain ⟨pre', post', e3, e4, h3, h4⟩ := (U i).split
  have old : ∀ z ∈ mid i, z.1 ≠ y → News h₀ L h' [z] := by
    intro z hz hzy
    rw [e4] at hz
    have far : z ∈ news → z.1 ≠ x → News h₀ L h' [z] := fun hn hzx t ht => by
      rw [List.mem_singleton.mp ht]
      exact N' z (List.mem_cons_of_mem _ (List.mem_cons_of_mem _ (List.mem_append_right _ (List.mem_filter.mpr ⟨hn, by simpa using ⟨hzx, hzy⟩⟩))))
    rcases List.mem_append.mp hz with hz | hz
    · exact far (by rw [e3]; exact List.mem_append_left _ hz) (h3 z hz)
    · rcases List.mem_cons.mp hz with rfl | hz
      · intro t ht
        rw [List.mem_singleton.mp ht]
        exact N' _ List.mem_cons_self
      · exact far (by rw [e3]; exact List.mem_append_right _ (List.mem_cons_of_mem _ hz)) (h4 z hz)
  rw [e2]
  intro z hz
  rcases List.mem_append.mp hz with hz | hz
  · exact old z (by rw [e1]; exact List.mem_append_left _ hz) (h1 z hz) z (List.mem_singleton.mpr rfl)
  · rcases List.mem_cons.mp hz with rfl | hz
    · exact N' _ (List.mem_cons_of_mem _ List.mem_cons_self)
    · exact old z (by rw [e1]; exact List.mem_append_right _ (List.mem_cons_of_mem _ hz)) (h2 z hz) z (List.mem_singleton.mpr rfl)
end
section
variable {prog : Program} {w : World} {A : Around} {E : Value → Shared → Prop} {s : Shared} {h₀ : Heap} {L a b : Addr} {news : Led} {xs ys : Array Value} {n k : Nat} {Q : Value → Shared → Prop}
theorem ne_len (N : News h₀ L s.heap news) (ha : (a, W.listOf xs n) ∈ news) (hb : (b, W.listOf ys k) ∈ news) (hsz : (xs.size != ys.size) = true) (hu : A.units < cLine) (h : Q (.bool true) s) :
    wpAny (model prog w) A (compareOp .NotEq (.ref a) (.ref b)) Q E s :=
  cmp_ofNotEq (PySem.SeqAt.RcNeAt.lists_lengths ⟨_, N.get ha, rfl, _, rfl⟩ ⟨_, N.get hb, rfl, _, rfl⟩ hsz hu prog w E Q h)
theorem eq_len (N : News h₀ L s.heap news) (ha : (a, W.listOf xs n) ∈ news) (hb : (b, W.listOf ys k) ∈ news) (hsz : (xs.size != ys.size) = true) (hu : A.units < cLine) (h : Q (.bool false) s) :
    wpAny (model prog w) A (compareOp .Eq (.ref a) (.ref b)) Q E s :=
  PySem.SeqAt.eq_list_lengthsAt ⟨_, N.get ha, rfl, _, rfl⟩ ⟨_, N.get hb, rfl, _, rfl⟩ hsz hu h
theorem eq_nil (N : News h₀ L s.heap news) (ha : (a, W.listOf #[] n) ∈ news) (hb : (b, W.listOf #[] k) ∈ news) (hu : A.units < cLine) (h : Q (.bool true) s) :
    wpAny (model prog w) A (compareOp .Eq (.ref a) (.ref b)) Q E s :=
  PySem.SeqAt.eq_listAt (e := fun _ => true) ⟨_, N.get ha, rfl, _, rfl⟩ ⟨_, N.get hb, rfl, _, rfl⟩ rfl hu (fun j h1 => absurd h1 (Nat.not_lt_zero _)) h
end
noncomputable abbrev mcD (w : World) (tm : Tok) (most : Int) (tm2 : Tok) : Obj := dictOf [en w "most" tm (.int most tm2)] 1
theorem off_I {I C D x : Addr} {o : Obj} {news : Led} (h : LCg.Off3 I C D news) (hm : (x, o) ∈ news) : @Ne Nat x I := (h.mem _ hm).1
theorem off_C {I C D x : Addr} {o : Obj} {news : Led} (h : LCg.Off3 I C D news) (hm : (x, o) ∈ news) : @Ne Nat x C := (h.mem _ hm).2.1
theorem off_D {I C D x : Addr} {o : Obj} {news : Led} (h : LCg.Off3 I C D news) (hm : (x, o) ∈ news) : @Ne Nat x D := (h.mem _ hm).2.2
theorem off_same {I C D : Addr} : ∀ {l l' : Led}, LCg.Off3 I C D l → l.map (·.1) = l'.map (·.1) → LCg.Off3 I C D l'
  | [], [], _, _ => trivial
  | _ :: _, [], _, e => by cases e
  | [], _ :: _, _, e => by cases e
  | p :: l, p' :: l', h, e => by
    simp only [List.map_cons, List.cons.injEq] at e
    refine ⟨?_, off_same h.2 e.2⟩
    rw [← e.1]
    exact h.1

theorem comp_ind {prog : Program} {w : World} {A : Around} {h₀ : Heap} {L : Addr} {m : Str → Option Value} {env : Env} {elt : PySem.Expr} {x : Str} {scope : Scope} {cl : List (Str × Addr)} {s : Shared} {S : Led → Prop} {P : Nat → Value → Prop} {Fin : List Value → Led → Prop} {news : Led}
    (R : Nat → Led → Prop) (ysOf : Nat → List Value) {n : Nat} (h0 : R 0 news) (hy : ysOf 0 = [])
    (turn : ∀ i v I oI C oC D m₂ h tk (E' : Value → Shared → Prop) nw, i < n → R i nw → P i v → LCg.NsObj oC m₂ → m₂ x = some v → Fr h₀ L h m → News h₀ L h ((I, oI) :: (C, oC) :: (D, LCg.lst (ysOf i)) :: nw) → LCg.Off3 I C D nw → ((@Ne Nat I C) ∧ (@Ne Nat I D) ∧ (@Ne Nat C D)) →
      wpAny (model prog w) A (eval elt (compEnvC scope cl C env)) (LCg.CompEnd h₀ L m { s with heap := h, toks := tk } I oI C oC D (LCg.lst (ysOf i)) S (fun y nw' => R (i + 1) nw' ∧ ysOf i ++ [y] = ysOf (i + 1))) E' { s with heap := h, toks := tk })
    (fin : ∀ nw, R n nw → Fin (ysOf n) nw) : LCg.CompRest prog w A h₀ L m env elt x scope cl s S P Fin n 0 [] news := by
  have key : ∀ (j i : Nat) (nw : Led), i + j = n → R i nw → LCg.CompRest prog w A h₀ L m env elt x scope cl s S P Fin j i (ysOf i) nw := by
    intro j
    induction j with
    | zero =>
      intro i nw hi hR
      have e : i = n := by omega
      subst e
      exact LCg.CompRest.zero (fin nw hR)
    | succ j ih =>
      intro i nw hi hR
      refine LCg.CompRest.succ ?_
      intro v I oI C oC D m₂ h tk E' hv hC hx F N off ne
      refine wpAny_mono (turn i v I oI C oC D m₂ h tk E' nw (by omega) hR hv hC hx F N off ne) (fun y s₂ hq => ?_) fun _ _ e => e
      obtain ⟨h', tk', nw', e, F', N', off', hS, hR', hy'⟩ := hq
      have z := ih (i + 1) nw' (by omega) hR'
      rw [← hy'] at z
      exact ⟨h', tk', nw', e, F', N', off', hS, z⟩
  rw [← hy]
  exact key n 0 news (by omega) h0
end
section
noncomputable abbrev SH (o : Shared) (h : Heap) (k : Nat) : Shared := ⟨h, o.gens, o.drawn, k, o.os⟩
/-- what a walk stands in -/
structure DC where
  prog : Program
  w : World
  A : Around
  env : Env
  o : Shared
/-- e has the value v, whatever comes next -/
structure Ev (c : DC) (h : Heap) (e : PySem.Expr) (k : Nat) (v : Value) (k' : Nat) : Prop where
  go : ∀ (Q E : Value → Shared → Prop), Q v (SH c.o h k') → wpAny (model c.prog c.w) c.A (eval e c.env) Q E (SH c.o h k)
structure Tr (c : DC) (h : Heap) (e : PySem.Expr) (k : Nat) (b : Bool) (k' : Nat) : Prop where
  go : ∀ (Q : Bool → Shared → Prop) (E : Value → Shared → Prop), Q b (SH c.o h k') → wpAny (model c.prog c.w) c.A (isTrue e c.env (eval e c.env)) Q E (SH c.o h k)
structure CmpIs (c : DC) (h : Heap) (op : CmpOp) (a b : Value) (r : Bool) : Prop where
  go : ∀ (k : Nat) (Q E : Value → Shared → Prop), Q (.bool r) (SH c.o h k) → wpAny (model c.prog c.w) c.A (compareOp op a b) Q E (SH c.o h k)
/-- the frame's env -/
noncomputable def FnEnv (env : Env) (L : Addr) : Prop := ∃ cn cs a ccd cl, env = envX cn cs L a ccd cl ∧ cs.kind = .function
section
variable {prog : Program} {w : World} {A : Around} {env : Env} {o : Shared} {h : Heap} {e : PySem.Expr} {k k' : Nat} {v : Value} {b : Bool} {Q E : Value → Shared → Prop} {Qb : Bool → Shared → Prop}
theorem Ev.use (H : Ev ⟨prog, w, A, env, o⟩ h e k v k') (hq : Q v (SH o h k')) : wpAny (model prog w) A (eval e env) Q E (SH o h k) := H.go Q E hq
theorem Tr.use (H : Tr ⟨prog, w, A, env, o⟩ h e k b k') (hq : Qb b (SH o h k')) : wpAny (model prog w) A (isTrue e env (eval e env)) Qb E (SH o h k) := H.go Qb E hq
end
section
variable {c : DC} {h g : Heap} {L : Addr} {m : Str → Option Value} {news : Led} {x : Str} {pos : Pos} {k k1 k2 k' : Nat} {v a b : Value} {e l r : PySem.Expr} {K : Frag} {p : Program} {loose : List Str} {mean : ExcName → Option Value} {mg mb : Str → Option Value}
theorem Ev.loc (F : Fr g L h m) (he : FnEnv c.env L) (hv : m x = some v) (hx : c.env.kindOf x = some .local) (hd : (x == ("__debug__" : Str)) = false) : Ev c h (.Name x pos) k v k := by
  obtain ⟨prog, w, A, env, o⟩ := c
  obtain ⟨cn, cs, a, ccd, cl, rfl, hk⟩ := he
  exact ⟨fun Q E hq => nameX_L (s := SH o h k) F hv hq hk hx hd⟩
structure GlbF (K : Frag) (x : Str) (v : Value) : Prop where
  go : nsIn K mainGlobals x = some (some v)
structure KeepF (K : Frag) (v : Value) : Prop where
  go : keepIn K v = true
theorem Ev.glb (F : Fr g L h m) (he : FnEnv c.env L) (X : K.In g) (T : Top p loose mean mg mb g) (hv : GlbF K x v) (hx : c.env.kindOf x = some .globalImplicit) (hd : (x == ("__debug__" : Str)) = false) : Ev c h (.Name x pos) k v k := by
  obtain ⟨prog, w, A, env, o⟩ := c
  obtain ⟨cn, cs, a, ccd, cl, rfl, hk⟩ := he
  exact ⟨fun Q E hq => nameX_K (s := SH o h k) F X (topRead_of T) hv.go hq hk hx hd⟩
theorem Ev.blt (F : Fr g L h m) (he : FnEnv c.env L) (X : K.In g) (T : Top p loose mean mg mb g) (hn : nsIn K mainGlobals x = some none) (hv : bootBuiltins x = some v) (hx : c.env.kindOf x = some .globalImplicit) (hd : (x == ("__debug__" : Str)) = false) (hm : x ≠ "__name__") : Ev c h (.Name x pos) k v k := by
  obtain ⟨prog, w, A, env, o⟩ := c
  obtain ⟨cn, cs, a, ccd, cl, rfl, hk⟩ := he
  exact ⟨fun Q E hq => nameX_B (s := SH o h k) F X (topRead_of T) hn hv hm hq hk hx hd⟩
theorem Ev.str {n : Nat} {y : Str} : Ev c h (.Constant (.str y) n pos) k (.str y k) (k + 1) := ⟨fun _ _ hq => Calls.Constant_str hq⟩
theorem Ev.int {n : Nat} {i : Int} : Ev c h (.Constant (.int i) n pos) k (.int i k) (k + 1) := ⟨fun _ _ hq => wpAny_Constant_int hq⟩
theorem Ev.none {n : Nat} : Ev c h (.Constant .none n pos) k .none k := ⟨fun _ _ hq => Constant_none hq⟩
theorem Ev.bool {n : Nat} {t : Bool} : Ev c h (.Constant (.bool t) n pos) k (.bool t) k := ⟨fun _ _ hq => Constant_bool hq⟩
structure AttrF (K : Frag) (C : Addr) (name : Str) : Prop where
  go : plainGet K C name = true ∧ hasDictIn K C = true ∧ ∃ attr, findIn K (.ref C) name = some attr ∧ noGet K attr = true
noncomputable def attrOk (K : Frag) (C : Addr) (name : Str) : Bool := plainGet K C name && (hasDictIn K C && (findIn K (.ref C) name).any (noGet K))
theorem AttrF.of {K : Frag} {C : Addr} {name : Str} (e : attrOk K C name = true) : AttrF K C name := by
  unfold attrOk at e
  simp only [Bool.and_eq_true] at e
  obtain ⟨e1, e2, e3⟩ := e
  obtain ⟨a, h1, h2⟩ := any_some e3
  exact ⟨e1, e2, a, h1, h2⟩
theorem Ev.attr {name : Str} {xx C d : Addr} {es : List DictEntry} {n : Nat} {y : Str} {yp : Pos} (F : Fr g L h m) (X : K.In g) (N : News g L h news) (H : Ev c h (.Name y yp) k (.ref xx) k1) (hx : (xx, instObj C d) ∈ news) (hd : (d, dictOf es n) ∈ news)
    (af : AttrF K C name) (hg : getL name es = some (some v)) (hh : handedIn v = true) : Ev c h (.Attribute (.Name y yp) name pos) k v (k1 + 1) := by
  obtain ⟨prog, w, A, env, o⟩ := c
  obtain ⟨h1, h2, attr, h3, h4⟩ := af.go
  exact ⟨fun Q E hq => Attribute_Name_ (H.go _ _ (get_own (s := SH o h k1) F X (InstAt.of_news N hx hd) h1 h2 h3 h4 hg hh hq))⟩
theorem Ev.cmp {op : CmpOp} {t : Bool} (Hl : Ev c h l k a k1) (Hr : Ev c h r k1 b k2) (Hc : CmpIs c h op a b t) (hm : behindInMarks op r = false) : Ev c h (.Compare l [op] [r] pos) k (.bool t) k2 :=
  ⟨fun _ _ hq => wpAny_Compare1 (Hl.go _ _ (Hr.go _ _ (Hc.go _ _ _ hq))) hm⟩
theorem Tr.cmp {op : CmpOp} {t : Bool} (Hl : Ev c h l k a k1) (Hr : Ev c h r k1 b k2) (Hc : CmpIs c h op a b t) (hm : behindInMarks op r = false) : Tr c h (.Compare l [op] [r] pos) k t k2 :=
  ⟨fun _ _ hq => wpAny_isTrue_Compare1 (Hl.go _ _ (Hr.go _ _ (Hc.go _ _ _ (wpAny_truthy_bool hq)))) hm⟩
theorem Tr.notT (H : Tr c h e k false k') : Tr c h (.UnaryOp .Not e pos) k true k' := ⟨fun _ _ hq => isTrue_not (H.go _ _ hq)⟩
theorem Tr.notF (H : Tr c h e k true k') : Tr c h (.UnaryOp .Not e pos) k false k' := ⟨fun _ _ hq => isTrue_not (H.go _ _ hq)⟩
theorem Tr.not {t : Bool} (H : Tr c h e k t k') : Tr c h (.UnaryOp .Not e pos) k (!t) k' := ⟨fun _ _ hq => isTrue_not (H.go _ _ hq)⟩
theorem CmpIs.eqS {x y : Str} {t u : Tok} {r : Bool} (e : (x == y) = r) : CmpIs c h .Eq (.str x t) (.str y u) r := by subst e; exact ⟨fun _ _ _ hq => PyProof.Rows.eq_str hq⟩
theorem CmpIs.neS {x y : Str} {t u : Tok} {r : Bool} (e : (x != y) = r) : CmpIs c h .NotEq (.str x t) (.str y u) r := by subst e; exact ⟨fun _ _ _ hq => ne_str hq⟩
theorem CmpIs.eqI {x y : Int} {t u : Tok} {r : Bool} (e : (x == y) = r) : CmpIs c h .Eq (.int x t) (.int y u) r := by subst e; exact ⟨fun _ _ _ hq => eq_int hq⟩
theorem CmpIs.neI {x y : Int} {t u : Tok} {r : Bool} (e : (x != y) = r) : CmpIs c h .NotEq (.int x t) (.int y u) r := by subst e; exact ⟨fun _ _ _ hq => ne_int hq⟩
theorem CmpIs.ltI {x y : Int} {t u : Tok} {r : Bool} (e : decide (x < y) = r) : CmpIs c h .Lt (.int x t) (.int y u) r := by subst e; exact ⟨fun _ _ _ hq => lt_int hq⟩
theorem CmpIs.leI {x y : Int} {t u : Tok} {r : Bool} (e : decide (x ≤ y) = r) : CmpIs c h .LtE (.int x t) (.int y u) r := by subst e; exact ⟨fun _ _ _ hq => le_int hq⟩
theorem CmpIs.gtI {x y : Int} {t u : Tok} {r : Bool} (e : decide (y < x) = r) : CmpIs c h .Gt (.int x t) (.int y u) r := by subst e; exact ⟨fun _ _ _ hq => gt_int hq⟩
theorem CmpIs.geI {x y : Int} {t u : Tok} {r : Bool} (e : decide (y ≤ x) = r) : CmpIs c h .GtE (.int x t) (.int y u) r := by subst e; exact ⟨fun _ _ _ hq => ge_int hq⟩
theorem CmpIs.isN : CmpIs c h .Is .none .none true := ⟨fun _ _ _ hq => is_none_none hq⟩
theorem CmpIs.isR {x : Addr} : CmpIs c h .Is (.ref x) .none false := ⟨fun _ _ _ hq => is_ref_none hq⟩
theorem CmpIs.isS {x : Str} {t : Tok} : CmpIs c h .Is (.str x t) .none false := ⟨fun _ _ _ hq => is_str_none hq⟩
theorem CmpIs.notN : CmpIs c h .IsNot .none .none false := ⟨fun _ _ _ hq => isnot_none_none hq⟩
theorem CmpIs.notR {x : Addr} : CmpIs c h .IsNot (.ref x) .none true := ⟨fun _ _ _ hq => isnot_ref_none hq⟩
theorem CmpIs.notS {x : Str} {t : Tok} : CmpIs c h .IsNot (.str x t) .none true := ⟨fun _ _ _ hq => isnot_str_none hq⟩
theorem CmpIs.notI {x : Int} {t : Tok} : CmpIs c h .IsNot (.int x t) .none true := ⟨fun _ _ _ hq => isnot_int_none hq⟩
theorem CmpIs.inS {x y : Str} {t u : Tok} {r : Bool} (e : (!(Builtin.Str.occurrences x y 0 x.length 1).isEmpty) = r) : CmpIs c h .In (.str y u) (.str x t) r := by subst e; exact ⟨fun _ _ _ hq => PyProof.Rows.in_str hq⟩
theorem CmpIs.ninS {x y : Str} {t u : Tok} {r : Bool} (e : (!(!(Builtin.Str.occurrences x y 0 x.length 1).isEmpty)) = r) : CmpIs c h .NotIn (.str y u) (.str x t) r := by subst e; exact ⟨fun _ _ _ hq => PyProof.Rows.notIn_str hq⟩
theorem Ev.add {i j : Int} {t u : Tok} (Hl : Ev c h l k (.int i t) k1) (Hr : Ev c h r k1 (.int j u) k2) : Ev c h (.BinOp l .Add r pos) k (.int (i + j) k2) (k2 + 1) := ⟨fun _ _ hq => wpAny_BinOp (Hl.go _ _ (Hr.go _ _ (add_int hq)))⟩
theorem Ev.sub {i j : Int} {t u : Tok} (Hl : Ev c h l k (.int i t) k1) (Hr : Ev c h r k1 (.int j u) k2) : Ev c h (.BinOp l .Sub r pos) k (.int (i - j) k2) (k2 + 1) := ⟨fun _ _ hq => wpAny_BinOp (Hl.go _ _ (Hr.go _ _ (sub_int hq)))⟩
theorem Tr.boolV {t : Bool} (H : Ev c h e k (.bool t) k') (hp : ∀ whole, isTrue e c.env whole = (do let v ← whole; standAt e.pos; holding [v] (truthy v))) : Tr c h e k t k' := ⟨fun _ _ hq => isTrue_plain (H.go _ _ (wpAny_truthy_bool hq)) (hp _)⟩
theorem Tr.andF {rest : List PySem.Expr} (H : Tr c h e k false k') : Tr c h (.BoolOp .And (e :: rest) pos) k false k' := ⟨fun _ _ hq => isTrue_and (H.go _ _ (by rw [if_neg (by decide)]; exact hq))⟩
theorem Tr.orT {rest : List PySem.Expr} (H : Tr c h e k true k') : Tr c h (.BoolOp .Or (e :: rest) pos) k true k' := ⟨fun _ _ hq => isTrue_or (H.go _ _ (by rw [if_pos rfl]; exact hq))⟩
/-- the rest of an `and`, of an `or` -/
structure TrL (c : DC) (h : Heap) (op : PySem.BoolOp) (es : List PySem.Expr) (pos : Pos) (k : Nat) (b : Bool) (k' : Nat) : Prop where
  go : ∀ (whole : Sem Value) (Q : Bool → Shared → Prop) (E : Value → Shared → Prop), Q b (SH c.o h k') → wpAny (model c.prog c.w) c.A (isTrue (.BoolOp op es pos) c.env whole) Q E (SH c.o h k)
theorem TrL.tr {op : PySem.BoolOp} {es : List PySem.Expr} {t : Bool} (H : TrL c h op es pos k t k') : Tr c h (.BoolOp op es pos) k t k' := ⟨fun _ _ hq => H.go _ _ _ hq⟩
theorem TrL.andN : TrL c h .And [] pos k true k := ⟨fun _ _ _ hq => isTrue_and_nil hq⟩
theorem TrL.orN : TrL c h .Or [] pos k false k := ⟨fun _ _ _ hq => isTrue_or_nil hq⟩
theorem TrL.andT {rest : List PySem.Expr} {t : Bool} (H : Tr c h e k true k1) (H2 : TrL c h .And rest pos k1 t k') : TrL c h .And (e :: rest) pos k t k' := ⟨fun _ _ _ hq => isTrue_and (H.go _ _ (by rw [if_pos rfl]; exact H2.go _ _ _ hq))⟩
theorem TrL.andF {rest : List PySem.Expr} (H : Tr c h e k false k') : TrL c h .And (e :: rest) pos k false k' := ⟨fun _ _ _ hq => isTrue_and (H.go _ _ (by rw [if_neg (by decide)]; exact hq))⟩
theorem TrL.orF {rest : List PySem.Expr} {t : Bool} (H : Tr c h e k false k1) (H2 : TrL c h .Or rest pos k1 t k') : TrL c h .Or (e :: rest) pos k t k' := ⟨fun _ _ _ hq => isTrue_or (H.go _ _ (by rw [if_neg (by decide)]; exact H2.go _ _ _ hq))⟩
theorem TrL.orT {rest : List PySem.Expr} (H : Tr c h e k true k') : TrL c h .Or (e :: rest) pos k true k' := ⟨fun _ _ _ hq => isTrue_or (H.go _ _ (by rw [if_pos rfl]; exact hq))⟩
/-- the arguments of a call -/
structure EvL (c : DC) (h : Heap) (es : List PySem.Expr) (k : Nat) (vs : List Value) (k' : Nat) : Prop where
  go : ∀ (pos : Pos) (Q : List Value → Shared → Prop) (E : Value → Shared → Prop), Q vs (SH c.o h k') → wpAny (model c.prog c.w) c.A (spliced (backTo pos (starEach es c.env))) Q E (SH c.o h k)
theorem EvL.nil : EvL c h [] k [] k := ⟨fun _ _ _ hq => args_nil hq⟩
theorem EvL.cons {rest : List PySem.Expr} {vs : List Value} (H : Ev c h e k v k1) (H2 : EvL c h rest k1 vs k') (hs : starEach (e :: rest) c.env = (false, eval e c.env) :: starEach rest c.env) : EvL c h (e :: rest) k (v :: vs) k' :=
  ⟨fun _ _ _ hq => args_cons (H.go _ _ (H2.go _ _ _ hq)) hs⟩
end
/-! names by their place in a written list: no text is compared -/
noncomputable def sKey (s : Str) : Nat := s.cps.toList.foldl (fun h b => h * 2097152 + (b + 1)) 0
noncomputable def nodupN : List Nat → Bool
  | [] => true
  | a :: r => !(r.any (Nat.beq a)) && nodupN r
theorem lookup_mem {α : Type} : ∀ {l : List (Str × α)}, nodupN (l.map fun p => sKey p.1) = true → ∀ {x : Str} {v : α}, (x, v) ∈ l → l.lookup x = some v
  | [], _, _, _, hm => nomatch hm
  | (y, u) :: l, hd, x, v, hm => by
    simp only [List.map_cons, nodupN, List.any_map, Bool.and_eq_true, Bool.not_eq_true', List.any_eq_false, Function.comp] at hd
    rcases List.mem_cons.mp hm with e | hm2
    · injection e with e1 e2; subst e1; subst e2; simp
    · have hne : (x == y) = false := by
        rw [beq_eq_false_iff_ne]; intro e; subst e
        exact hd.1 (x, v) hm2 (Nat.beq_refl _)
      rw [List.lookup_cons, hne]
      exact lookup_mem hd.2 hm2
theorem nodupN_app : ∀ {l r : List Nat}, nodupN (l ++ r) = true ↔ nodupN l = true ∧ nodupN r = true ∧ ∀ a ∈ l, ∀ b ∈ r, a ≠ b
  | [], r => by simp [nodupN]
  | a :: l, r => by
    simp only [List.cons_append, nodupN, Bool.and_eq_true, nodupN_app (l := l) (r := r), List.any_append, Bool.not_eq_true', Bool.or_eq_false_iff, List.any_eq_false, List.mem_cons]
    constructor
    · rintro ⟨⟨h1, h2⟩, h3, h4, h5⟩
      refine ⟨⟨h1, h3⟩, h4, fun x hx b hb => ?_⟩
      rcases hx with rfl | hx
      · exact fun e => h2 b hb (e ▸ Nat.beq_refl _)
      · exact h5 x hx b hb
    · rintro ⟨⟨h1, h3⟩, h4, h5⟩
      exact ⟨⟨h1, fun b hb e => h5 a (.inl rfl) b hb (Nat.eq_of_beq_eq_true e)⟩, h3, h4, fun x hx => h5 x (.inr hx)⟩
theorem nodupN_rev : ∀ {l : List Nat}, nodupN l = true → nodupN l.reverse = true
  | [], _ => rfl
  | a :: l, h => by
    simp only [nodupN, Bool.and_eq_true, Bool.not_eq_true', List.any_eq_false] at h
    rw [List.reverse_cons, nodupN_app]
    refine ⟨nodupN_rev h.2, by simp [nodupN], fun x hx b hb e => ?_⟩
    rw [List.mem_singleton.mp hb] at e
    exact h.1 x (List.mem_reverse.mp hx) (e ▸ Nat.beq_refl _)
noncomputable def debugS : Str := "__debug__"
noncomputable def okNames (names : List (Str × NameKind)) : Bool := nodupN (names.map fun p => sKey p.1) && names.all fun p => !(p.1 == debugS)
structure EnvOk (env : Env) (L : Addr) (names : List (Str × NameKind)) : Prop where
  fn : FnEnv env L
  go : ∀ {x : Str} {κ : NameKind}, (x, κ) ∈ names → env.kindOf x = some κ
  nd : ∀ {x : Str} {κ : NameKind}, (x, κ) ∈ names → (x == ("__debug__" : Str)) = false
theorem okNames_nd {names : List (Str × NameKind)} (h : okNames names = true) {x : Str} {κ : NameKind} (hm : (x, κ) ∈ names) : (x == ("__debug__" : Str)) = false := by
  have := List.all_eq_true.mp (Bool.and_eq_true_iff.mp h).2 _ hm
  simpa [debugS] using this
theorem envOk {cn : Str} {K : ScopeKind} {names : List (Str × NameKind)} {b1 b2 : Bool} {mo : List (Str × Const)} {L a : Addr} {ccd : Value} {cl : List (Str × Addr)}
    (he : FnEnv (envX cn ⟨K, names, b1, b2, mo⟩ L a ccd cl) L) (h : okNames names = true) : EnvOk (envX cn ⟨K, names, b1, b2, mo⟩ L a ccd cl) L names := ⟨he, fun hm => lookup_mem (Bool.and_eq_true_iff.mp h).1 hm, okNames_nd h⟩
theorem envOkC {cn : Str} {K : ScopeKind} {names : List (Str × NameKind)} {b1 b2 : Bool} {mo : List (Str × Const)} {L a : Addr} {ccd : Value}
    (he : FnEnv (envOfC cn ⟨K, names, b1, b2, mo⟩ L a ccd) L) (h : okNames names = true) : EnvOk (envOfC cn ⟨K, names, b1, b2, mo⟩ L a ccd) L names := ⟨he, fun hm => lookup_mem (Bool.and_eq_true_iff.mp h).1 hm, okNames_nd h⟩
structure BindsOk (binds : List (Str × Value)) : Prop where
  go : ∀ {x : Str} {v : Value}, (x, v) ∈ binds → List.lookup x binds.reverse = some v
theorem bindsOk {g h : Heap} {L : Addr} {binds : List (Str × Value)} (_F : Fr g L h fun y => List.lookup y binds.reverse) (h : nodupN (binds.map fun p => sKey p.1) = true) : BindsOk binds :=
  ⟨fun hm => lookup_mem (by rw [List.map_reverse]; exact nodupN_rev h) (List.mem_reverse.mpr hm)⟩
theorem lkHit {x : Str} {v : Value} {r : Option Value} {i : Decidable (x = x)} : (@ite _ (x = x) i (some v) r) = some v := if_pos rfl
theorem lkMiss {x y : Str} {v : Value} {a r : Option Value} {i : Decidable (x = y)} (hn : (x == y) = false) (hr : r = some v) : (@ite _ (x = y) i a r) = some v := by
  rw [if_neg (by simpa using hn)]; exact hr
theorem lkRev {x : Str} {v : Value} {binds : List (Str × Value)} (hB : BindsOk binds) (hm : (x, v) ∈ binds) : List.lookup x binds.reverse = some v := hB.go hm
section
variable {α : Type} {x a0 a1 a2 a3 a4 a5 a6 a7 a8 a9 b0 b1 b2 b3 b4 b5 : α} {l : List α}
theorem mem0 : x ∈ x :: l := .head _
theorem mem1 : x ∈ a0 :: x :: l := .tail _ (.head _)
theorem mem2 : x ∈ a0 :: a1 :: x :: l := .tail _ mem1
theorem mem3 : x ∈ a0 :: a1 :: a2 :: x :: l := .tail _ mem2
theorem mem4 : x ∈ a0 :: a1 :: a2 :: a3 :: x :: l := .tail _ mem3
theorem mem5 : x ∈ a0 :: a1 :: a2 :: a3 :: a4 :: x :: l := .tail _ mem4
theorem mem6 : x ∈ a0 :: a1 :: a2 :: a3 :: a4 :: a5 :: x :: l := .tail _ mem5
theorem mem7 : x ∈ a0 :: a1 :: a2 :: a3 :: a4 :: a5 :: a6 :: x :: l := .tail _ mem6
theorem memS (h : x ∈ l) : x ∈ a0 :: a1 :: a2 :: a3 :: a4 :: a5 :: a6 :: a7 :: l := .tail _ (.tail _ (.tail _ (.tail _ (.tail _ (.tail _ (.tail _ (.tail _ h)))))))
end
section
variable {c : DC} {h g : Heap} {L : Addr} {m : Str → Option Value} {news : Led} {x : Str} {pos : Pos} {k k' : Nat} {v : Value} {K : Frag} {p : Program} {loose : List Str} {mean : ExcName → Option Value} {mg mb : Str → Option Value} {names : List (Str × NameKind)}
theorem Ev.locN (hK : EnvOk c.env L names) (hx : (x, .local) ∈ names) (F : Fr g L h m) (hv : m x = some v) : Ev c h (.Name x pos) k v k := Ev.loc F hK.fn hv (hK.go hx) (hK.nd hx)
theorem Ev.glbN (hK : EnvOk c.env L names) (hx : (x, .globalImplicit) ∈ names) (F : Fr g L h m) (X : K.In g) (T : Top p loose mean mg mb g) (hv : GlbF K x v) : Ev c h (.Name x pos) k v k := Ev.glb F hK.fn X T hv (hK.go hx) (hK.nd hx)
theorem Ev.bltN (hK : EnvOk c.env L names) (hx : (x, .globalImplicit) ∈ names) (F : Fr g L h m) (X : K.In g) (T : Top p loose mean mg mb g) (hn : nsIn K mainGlobals x = some Option.none) (hv : bootBuiltins x = some v) (hm : (x == ("__name__" : Str)) = false) : Ev c h (.Name x pos) k v k :=
  Ev.blt F hK.fn X T hn hv (hK.go hx) (hK.nd hx) (beq_eq_false_iff_ne.mp hm)
end
inductive XB (P Q : Prop) : Bool → Prop
  | t : P → XB P Q true
  | f : Q → XB P Q false
noncomputable def retOf : Flow → Value
  | .ret v => v
  | _ => .none
/-- a body is through: what it hands back, and its ledger -/
noncomputable def Ended (Post : Value → Led → Prop) (g : Heap) (L : Addr) (o : Shared) (fl : Flow) (s' : Shared) : Prop :=
  ∃ h' k' m' news', s' = SH o h' k' ∧ Post (retOf fl) news' ∧ Fr g L h' m' ∧ News g L h' news'
theorem Ended.ret {Post : Value → Led → Prop} {g h' : Heap} {L : Addr} {o : Shared} {v : Value} {news' : Led} {m' : Str → Option Value} {k' : Nat} (hp : Post v news') (F : Fr g L h' m') (N : News g L h' news') : Ended Post g L o (.ret v) (SH o h' k') := ⟨h', k', m', news', rfl, hp, F, N⟩
theorem Ended.next {Post : Value → Led → Prop} {g h' : Heap} {L : Addr} {o : Shared} {news' : Led} {m' : Str → Option Value} {k' : Nat} (hp : Post .none news') (F : Fr g L h' m') (N : News g L h' news') : Ended Post g L o .next (SH o h' k') := ⟨h', k', m', news', rfl, hp, F, N⟩
/-- a contract of a def, at the code's own level -/
noncomputable def Ct (w : World) (f : Addr) (vs : List Value) (d u : Nat) (news : Led) (Post : Value → Led → Prop) : Prop :=
  ∀ (dp un : Nat) (gd : Option (List Code)) (cn : Str) (cs : Scope) (a : Addr) (ccd : Value) (cl : List (Str × Addr)) (outer : List Env) (A₀ : Around) (base h₀ : Heap) (L : Addr) (m : Str → Option Value) (s : Shared) (R : Result → Shared → Prop)
    (p : Program) (loose : List Str) (mean : ExcName → Option Value) (mg mb : Str → Option Value),
    Below A₀ base outer h₀ → Fr h₀ L s.heap m → (Mine.K w.params).In h₀ → News h₀ L s.heap news → Top p loose mean mg mb h₀ → cs.kind = .function → dp + d < recursionLimit → un + u < cLine →
    (∀ r news' h' tk', Post r news' → Fr h₀ L h' m → News h₀ L h' news' → R (.ok (.ret r)) { s with heap := h', toks := tk' }) →
    codeAny (model PySem.Challenge.rw_qd0072_01.row.prog w) (ktrTop dp un gd cn cs L a ccd cl outer) (.call (.ref f) ⟨vs, []⟩) R s
theorem Ct.ctr {w : World} {f : Addr} {vs : List Value} {d u : Nat} {news : Led} {Post : Value → Led → Prop} (H : Ct w f vs d u news Post) : Ctr w f vs d u news Post :=
  fun dp un gd cn cs a ccd cl outer A₀ base h₀ L m s Q E p loose mean mg mb B F X N T hck hd hu hret => wpAny_call (H dp un gd cn cs a ccd cl outer A₀ base h₀ L m s _ p loose mean mg mb B F X N T hck hd hu hret)
theorem Ct.of {w : World} {f : Addr} {vs : List Value} {d u : Nat} {news : Led} {Post : Value → Led → Prop} {name qual : Str} {params : Arguments} {body : List Stmt} {scope : Scope} {dV kV doc pm cdv ct oc : Value} {an od : Option Addr} {osl : Array (Option Value)}
    (binds : List (Str × Value))
    (ho : (Mine.K w.params).lookup f = some ⟨oc, od, .func (fnOf name qual params body scope dV kV doc pm an cdv ct), osl⟩) (hcd : codeIn (Mine.K w.params) cdv qual = true)
    (hb : ∀ s : Shared, (Mine.K w.params).In s.heap → BindsTo s (fnOf name qual params body scope dV kV doc pm an cdv ct) ⟨vs, []⟩ binds) (hl : ∀ y ∈ binds, scope.names.lookup y.1 = some .local)
    (hco : scope.isCoroutine = false) (hgen : scope.isGenerator = false) (hk : scope.kind = .function) (hcell : (scope.names.all fun x => x.2 != .cell) = true)
    (H : ∀ (dp un : Nat) (gd : Option (List Code)) (outer : List Env) (A₀ : Around) (base g : Heap) (L : Addr) (h : Heap) (o : Shared) (k : Nat) (p : Program) (loose : List Str) (mean : ExcName → Option Value) (mg mb : Str → Option Value) (E : Value → Shared → Prop),
      Below A₀ base outer g → Fr g L h (fun y => List.lookup y binds.reverse) → (Mine.K w.params).In g → News g L h news → Top p loose mean mg mb g → dp + d ≤ recursionLimit → un + u < cLine + 3 → FnEnv (envX qual scope L f cdv []) L → PassesOwn (model PySem.Challenge.rw_qd0072_01.row.prog w) (ktrTop dp un gd qual scope L f cdv [] outer) (envX qual scope L f cdv []) E →
      wpAny (model PySem.Challenge.rw_qd0072_01.row.prog w) (ktrTop dp un gd qual scope L f cdv [] outer) (execs body (envX qual scope L f cdv [])) (Ended Post g L o) E (SH o h k)) : Ct w f vs d u news Post := by
  intro dp un gd cn cs a ccd cl outer A₀ base h₀ L m s R p loose mean mg mb B F X N T hck hd hu hret
  refine code_def B F X N T rfl rfl hck ho hcd (Nat.lt_of_le_of_lt (Nat.le_add_right _ _) hd) (hb s (X.keeps F.keep)) hl (fun g L' h' FG' F' N' B' X' T' => ?_) hco hgen hk (fun x hx => by simpa using List.all_eq_true.mp hcell x hx)
  refine wpAny_mono (H (dp + 1) (un + 3) gd (envX cn cs L a ccd cl :: outer) _ base g L' h' s _ p loose mean mg mb _ B' F' X' N' T' (by omega) (by omega) ⟨_, _, _, _, _, rfl, hk⟩ (by passes_own)) (fun fl s' q => ?_) fun _ _ x => x
  obtain ⟨h2, k2, m2, news2, rfl, hp, F2, N2⟩ := q
  refine leaveK_ F2 N2 fun kF kN => ?_
  exact hret _ _ _ _ (by cases fl <;> exact hp) kF kN
theorem room {dp d d2 : Nat} (hd : dp + d ≤ recursionLimit) (h : Nat.blt d2 d = true) : dp + d2 < recursionLimit := by
  have := Nat.blt_eq.mp h
  omega
theorem roomU {un u u2 : Nat} (hu : un + u < cLine + 3) (h : Nat.ble (u2 + 3) u = true) : un + u2 < cLine := by
  have := Nat.le_of_ble_eq_true h
  omega
section
variable {M : Model} {A : Around} {E : Value → Shared → Prop} {s : Shared} {env : Env} {st : Stmt} {Q : Flow → Shared → Prop}
theorem xs_one (h : wpAny M A (exec st env) Q E s) : wpAny M A (execs [st] env) Q E s :=
  wpAny_execs_cons (wpAny_mono h (fun f s' q => by cases f <;> first | exact wpAny_execs_nil q | exact q) fun _ _ x => x)
end
section
variable {prog : Program} {w : World} {A : Around} {env : Env} {o : Shared} {h : Heap} {t e : PySem.Expr} {b l : List Stmt} {p : Pos} {k k' : Nat} {v : Value} {Q : Flow → Shared → Prop} {E : Value → Shared → Prop}
theorem xs_tt (H : Tr ⟨prog, w, A, env, o⟩ h t k true k') (hc : wpAny (model prog w) A (execs b env) Q E (SH o h k')) : wpAny (model prog w) A (exec (.If t b l p) env) Q E (SH o h k) :=
  wpAny_If (H.go _ _ (by rw [if_pos rfl]; exact hc))
theorem xs_ff (H : Tr ⟨prog, w, A, env, o⟩ h t k false k') (hc : wpAny (model prog w) A (execs l env) Q E (SH o h k')) : wpAny (model prog w) A (exec (.If t b l p) env) Q E (SH o h k) :=
  wpAny_If (H.go _ _ (by rw [if_neg (by decide)]; exact hc))
theorem xs_if {bb : Bool} (H : Tr ⟨prog, w, A, env, o⟩ h t k bb k') (hc : XB (wpAny (model prog w) A (execs b env) Q E (SH o h k')) (wpAny (model prog w) A (execs l env) Q E (SH o h k')) bb) : wpAny (model prog w) A (exec (.If t b l p) env) Q E (SH o h k) := by
  cases hc with
  | t h => exact xs_tt H h
  | f h => exact xs_ff H h
end
/-- two objects that cannot stand at one address -/
noncomputable def dataTag : Data → Nat
  | .plain => 0 | .prim _ => 1 | .seq _ _ => 2 | .dict _ _ => 3 | .set _ _ _ => 4 | .bytearray _ _ => 5 | .cell _ => 6 | .func _ => 7 | .cls _ => 8 | .fields _ => 9 | .freed => 10
noncomputable def clsApart : Value → Value → Bool
  | .ref a, .ref b => !(Nat.beq a b)
  | .type s, .type t => s != t
  | .ref _, .type _ => true
  | .type _, .ref _ => true
  | _, _ => false
noncomputable def keyOf : List DictEntry → Str
  | ⟨_, .str s _, _⟩ :: _ => s
  | _ => Str.empty
noncomputable def dictApart : Data → Data → Bool
  | .dict a _, .dict b _ => !(Nat.beq a.toList.length b.toList.length) || keyOf a.toList != keyOf b.toList
  | _, _ => false
noncomputable def apart (a b : Obj) : Bool := !(Nat.beq (dataTag a.data) (dataTag b.data)) || clsApart a.cls b.cls || dictApart a.data b.data
theorem apart_self (a : Obj) : apart a a = false := by
  obtain ⟨c, d, dt, sl⟩ := a
  have h1 : Nat.beq (dataTag dt) (dataTag dt) = true := Nat.beq_refl _
  have h2 : clsApart c c = false := by cases c <;> simp [clsApart]
  have h3 : dictApart dt dt = false := by cases dt <;> simp [dictApart]
  simp only [apart, h1, h2, h3]
  rfl
theorem ne_kind {h₀ h : Heap} {L a b : Addr} {oa ob : Obj} {news : Led} (N : News h₀ L h news) (ha : (a, oa) ∈ news) (hb : (b, ob) ∈ news) (hk : apart oa ob = true) : a ≠ b := by
  rintro rfl
  have := (N _ ha).1.symm.trans (N _ hb).1
  cases this
  rw [apart_self] at hk
  cases hk
theorem Ct.make {w : World} {C fI : Addr} {vs : List Value} {d u : Nat} {news : Led} {Post : Value → Led → Prop}
    (hm : makesIn (Mine.K w.params) C = true) (hi : findIn (Mine.K w.params) (.ref C) "__init__" = some (some (.ref fI))) (hf : isFn (Mine.K w.params) (.ref fI) = true)
    (H : ∀ x dx, (∀ p ∈ news, p.1 < dx) → dx < x → Ct w fI (.ref x :: vs) d u ((x, instObj C dx) :: (dx, dictOf [] 0) :: news) (fun r l => r = .none ∧ Post (.ref x) l)) : Ct w C vs (d + 1) (u + 10) news Post := by
  intro dp un gd cn cs a ccd cl outer A₀ base h₀ L m s R p loose mean mg mb B F X N T hck hd hu hret
  refine make_K F N (X.keeps F.keep) hm hi (beq_iff_eq.mp hf) fun x dx h' F' N' l1 l2 => ?_
  have e1 : Code.weight (.builtin "type.__call__" ⟨.ref C :: vs, []⟩) ≤ 1 := Nat.le_of_ble_eq_true rfl
  have e2 : Code.cUnits (.builtin "type.__call__" ⟨.ref C :: vs, []⟩) ≤ 10 := Nat.le_of_ble_eq_true rfl
  exact H x dx l1 l2 (dp + Code.weight (.builtin "type.__call__" ⟨.ref C :: vs, []⟩)) (un + Code.cUnits (.builtin "type.__call__" ⟨.ref C :: vs, []⟩)) (pushGuards (Code.guards (.builtin "type.__call__" ⟨.ref C :: vs, []⟩)) gd) cn cs a ccd cl outer A₀ base h₀ L m { s with heap := h' } _ p loose mean mg mb B F' X N' T hck (by omega) (by omega)
    (fun r news' h2 tk' hp F2 N2 => ⟨hp.1, hret _ _ _ _ hp.2 F2 N2⟩)
/-- none of the ledger's stands at a -/
structure Fresh (a : Addr) (led : Led) : Prop where
  go : ∀ q ∈ led, q.1 ≠ a
theorem Fresh.ne {a x : Addr} {ob : Obj} {led : Led} (h : Fresh a led) (hm : (x, ob) ∈ led) : x ≠ a := h.go _ hm
theorem Fresh.en {a x : Addr} {ob : Obj} {led : Led} (h : Fresh a led) (hm : (x, ob) ∈ led) : a ≠ x := (h.go _ hm).symm
noncomputable def AllF : List Addr → Led → Prop
  | [], _ => True
  | a :: r, led => Fresh a led ∧ AllF r led
theorem AllF.of {led : Led} : ∀ {l : List Addr}, (∀ a ∈ l, ∀ q ∈ led, q.1 ≠ a) → AllF l led
  | [], _ => trivial
  | _ :: _, h => ⟨⟨h _ (.head _)⟩, AllF.of fun a ha => h a (.tail _ ha)⟩
/-- how a contract ends: an index, what holds of it, new addresses, the value, the ledger -/
noncomputable def R1 {ι : Type} (P : ι → Prop) (ad : ι → List Addr) (val : ι → Value) (led₀ : Led) (led : ι → Led) (r : Value) (l : Led) : Prop := ∃ i, P i ∧ (∀ a ∈ ad i, ∀ q ∈ led₀, q.1 ≠ a) ∧ r = val i ∧ l = led i
section
variable {w : World} {f : Addr} {vs : List Value} {d u : Nat} {dp un : Nat} {gd : Option (List Code)} {cn : Str} {cs : Scope} {a : Addr} {ccd : Value} {cl : List (Str × Addr)} {outer : List Env} {A₀ : Around} {base h₀ h : Heap} {L : Addr} {m : Str → Option Value} {o : Shared} {k : Nat} {Q E : Value → Shared → Prop}
    {p : Program} {loose : List Str} {mean : ExcName → Option Value} {mg mb : Str → Option Value} {news : Led} {ι : Type}
/-- no object changed; `more`: new ones; `ad`: addresses that none of the ledger's is -/
theorem call0 {val : ι → Value} {P : ι → Prop} {more : ι → Led} {ad : ι → List Addr}
    (C : Ct w f vs d u news (R1 P ad val news (fun i => more i ++ news)))
    (B : Below A₀ base outer h₀) (F : Fr h₀ L h m) (X : (Mine.K w.params).In h₀) (N : News h₀ L h news) (T : Top p loose mean mg mb h₀) (hk : cs.kind = .function) (hd : dp + d < recursionLimit) (hu : un + u < cLine)
    (ret : ∀ i h' tk', P i → AllF (ad i) news → Fr h₀ L h' m → News h₀ L h' (more i ++ news) → Q (val i) (SH o h' tk')) :
    wpAny (model PySem.Challenge.rw_qd0072_01.row.prog w) (ktrTop dp un gd cn cs L a ccd cl outer) (call (.ref f) vs) Q E (SH o h k) := by
  refine C.ctr _ _ _ _ _ _ _ _ _ _ _ _ _ _ (SH o h k) _ _ _ _ _ _ _ B F X N T hk hd hu ?_
  rintro r l h' tk' ⟨i, hp, ha, rfl, rfl⟩ F' N'
  exact ret i h' tk' hp (AllF.of ha) F' N'
/-- x changed -/
theorem call1 {val : ι → Value} {P : ι → Prop} {x : Addr} {ob : Obj} {o' : ι → Obj} {reads : Led} {news' : ι → Led} {more : ι → Led} {ad : ι → List Addr}
    (C : ∀ rest : Led, (∀ p ∈ rest, p.1 ≠ x) → Ct w f vs d u ((x, ob) :: (reads ++ rest)) (R1 P ad val ((x, ob) :: (reads ++ rest)) (fun i => more i ++ (x, o' i) :: (reads ++ rest))))
    (B : Below A₀ base outer h₀) (F : Fr h₀ L h m) (X : (Mine.K w.params).In h₀) (N : News h₀ L h news) (T : Top p loose mean mg mb h₀) (hk : cs.kind = .function) (hd : dp + d < recursionLimit) (hu : un + u < cLine)
    (hx : (x, ob) ∈ news) (hr : ∀ q ∈ reads, q ∈ news) (U : ∀ i, Upd x ob (o' i) news (news' i))
    (ret : ∀ i h' tk', P i → AllF (ad i) news → Fr h₀ L h' m → News h₀ L h' (more i ++ news' i) → Q (val i) (SH o h' tk')) :
    wpAny (model PySem.Challenge.rw_qd0072_01.row.prog w) (ktrTop dp un gd cn cs L a ccd cl outer) (call (.ref f) vs) Q E (SH o h k) := by
  let rest : Led := news.filter fun q => q.1 != x
  have hm : ∀ q ∈ rest, q ∈ news ∧ q.1 ≠ x := fun q hq => ⟨(List.mem_filter.mp hq).1, by simpa using (List.mem_filter.mp hq).2⟩
  have N0 : News h₀ L h ((x, ob) :: (reads ++ rest)) := by
    intro q hq
    rcases List.mem_cons.mp hq with rfl | hq
    · exact N _ hx
    · rcases List.mem_append.mp hq with hq | hq
      · exact N _ (hr q hq)
      · exact N _ (hm q hq).1
  refine (C rest (fun q hq => (hm q hq).2)).ctr _ _ _ _ _ _ _ _ _ _ _ _ _ _ (SH o h k) _ _ _ _ _ _ _ B F X N0 T hk hd hu ?_
  rintro r l h' tk' ⟨i, hp, ha, rfl, rfl⟩ F' N'
  refine ret i h' tk' hp (AllF.of fun a hai q hq => ?_) F' ?_
  · by_cases e : q.1 = x
    · rw [e]; exact ha a hai (x, ob) List.mem_cons_self
    · exact ha a hai q (List.mem_cons_of_mem _ (List.mem_append_right _ (List.mem_filter.mpr ⟨hq, by simpa using e⟩)))
  obtain ⟨pre, post, e1, e2, h1, h2⟩ := (U i).split
  rw [e2]
  intro q hq
  rcases List.mem_append.mp hq with hq | hq
  · exact N' q (List.mem_append_left _ hq)
  refine N' q (List.mem_append_right _ ?_)
  rcases List.mem_append.mp hq with hq | hq
  · refine List.mem_cons_of_mem _ (List.mem_append_right _ ?_)
    exact List.mem_filter.mpr ⟨by rw [e1]; exact List.mem_append_left _ hq, by simpa using h1 q hq⟩
  · rcases List.mem_cons.mp hq with rfl | hq
    · exact List.mem_cons_self
    · refine List.mem_cons_of_mem _ (List.mem_append_right _ ?_)
      exact List.mem_filter.mpr ⟨by rw [e1]; exact List.mem_append_right _ (List.mem_cons_of_mem _ hq), by simpa using h2 q hq⟩
end
section
variable {w : World} {A : Around} {env : Env} {o : Shared} {h g : Heap} {L : Addr} {m : Str → Option Value} {news : Led} {e ob : PySem.Expr} {p p' : Pos} {k k1 k' : Nat} {v : Value} {x name : Str} {vs : List Value} {args : List PySem.Expr} {E : Value → Shared → Prop} {Q : Value → Shared → Prop}
theorem xs_set {Q : Flow → Shared → Prop} {prog : Program} (F : Fr g L h m) (N : News g L h news) (he : FnEnv env L) (H : Ev ⟨prog, w, A, env, o⟩ h e k v k') (hx : env.kindOf x = some .local) (hs : swapsWith e (some (.Name x p')) p.line env = pure false)
    (hc : ∀ h', Fr g L h' (fun y => if y = x then some v else m y) → News g L h' news → Q .next (SH o h' (k' + 1))) : wpAny (model prog w) A (exec (.Assign [.Name x p'] e p) env) Q E (SH o h k) := by
  obtain ⟨cn, cs, a, ccd, cl, rfl, hk⟩ := he
  exact wpAny_Assign_Name (H.go _ _ (storeX_L (s := SH o h k') F N hc hk hx)) hs
structure MethF (K : Frag) (C : Addr) (name : Str) (f : Addr) : Prop where
  go : plainGet K C name = true ∧ findIn K (.ref C) name = some (some (.ref f)) ∧ isFn K (.ref f) = true ∧ keepIn K (.ref f) = true
noncomputable def methOk (K : Frag) (C : Addr) (name : Str) (f : Addr) : Bool := plainGet K C name && (findIn K (.ref C) name == some (some (.ref f)) && (isFn K (.ref f) && keepIn K (.ref f)))
theorem MethF.of {K : Frag} {C : Addr} {name : Str} {f : Addr} (e : methOk K C name f = true) : MethF K C name f := by
  unfold methOk at e
  simp only [Bool.and_eq_true, beq_iff_eq] at e
  exact ⟨e⟩
theorem mcall0 {xx C d f : Addr} {es : List DictEntry} {n : Nat} {pl : Sem Bool} (F : Fr g L h m) (X : (Mine.K w.params).In g) (N : News g L h news) (H : Ev ⟨PySem.Challenge.rw_qd0072_01.row.prog, w, A, env, o⟩ h ob k (.ref xx) k1) (hx : (xx, instObj C d) ∈ news) (hd : (d, dictOf es n) ∈ news)
    (mf : MethF (Mine.K w.params) C name f) (hg : getL name es = some none)
    (hcl : eval (.Call (.Attribute ob name p') [] [] p) env = (do let ov ← eval ob env; standAt p'.atName; let __x ← holding [ov] (getMethod ov name pl); match __x with | (f, first) => callWith p f first (backTo p (starEach [] env)) []))
    (hc : wpAny (model PySem.Challenge.rw_qd0072_01.row.prog w) A (call (.ref f) [.ref xx]) Q E (SH o h k1)) : wpAny (model PySem.Challenge.rw_qd0072_01.row.prog w) A (eval (.Call (.Attribute ob name p') [] [] p) env) Q E (SH o h k) :=
  MethodCall_ (H.go _ _ (method_inst (s := SH o h k1) F X (InstAt.of_news N hx hd) mf.go.1 mf.go.2.1 mf.go.2.2.1 hg (callWith_K0 (s := SH o h k1) (X.keeps F.keep) mf.go.2.2.2 hc))) hcl
theorem mcall {xx C d f : Addr} {es : List DictEntry} {n : Nat} {pl : Sem Bool} (F : Fr g L h m) (X : (Mine.K w.params).In g) (N : News g L h news) (H : Ev ⟨PySem.Challenge.rw_qd0072_01.row.prog, w, A, env, o⟩ h ob k (.ref xx) k1) (hx : (xx, instObj C d) ∈ news) (hd : (d, dictOf es n) ∈ news)
    (mf : MethF (Mine.K w.params) C name f) (hg : getL name es = some none) (Ha : EvL ⟨PySem.Challenge.rw_qd0072_01.row.prog, w, A, env, o⟩ h (e :: args) k1 vs k')
    (hcl : eval (.Call (.Attribute ob name p') (e :: args) [] p) env = (do let ov ← eval ob env; standAt p'.atName; let __x ← holding [ov] (getMethod ov name pl); match __x with | (f, first) => callWith p f first (backTo p (starEach (e :: args) env)) []))
    (hs : starEach (e :: args) env = (false, eval e env) :: starEach args env) (hpl : ((backTo p (starEach args env)).any fun x => x.1) = false)
    (hc : wpAny (model PySem.Challenge.rw_qd0072_01.row.prog w) A (call (.ref f) (.ref xx :: vs)) Q E (SH o h k')) : wpAny (model PySem.Challenge.rw_qd0072_01.row.prog w) A (eval (.Call (.Attribute ob name p') (e :: args) [] p) env) Q E (SH o h k) :=
  MethodCall_ (H.go _ _ (method_inst (s := SH o h k1) F X (InstAt.of_news N hx hd) mf.go.1 mf.go.2.1 mf.go.2.2.1 hg (callWith_K (s := SH o h k1) (X.keeps F.keep) mf.go.2.2.2 (Ha.go _ _ _ ⟨X.keeps F.keep, hc⟩) hs hpl))) hcl
/-- a call of a def by its name -/
theorem fcall {f : Value} (F : Fr g L h m) (X : (Mine.K w.params).In g) (H : Ev ⟨PySem.Challenge.rw_qd0072_01.row.prog, w, A, env, o⟩ h ob k f k1) (hkf : KeepF (Mine.K w.params) f)
    (Ha : EvL ⟨PySem.Challenge.rw_qd0072_01.row.prog, w, A, env, o⟩ h (e :: args) k1 vs k')
    (hcl : eval (.Call ob (e :: args) [] p) env = (do let __do_lift ← eval ob env; callWith p __do_lift [] (backTo p (starEach (e :: args) env)) (backToKw p (keywordEach [] env))))
    (hs : starEach (e :: args) env = (false, eval e env) :: starEach args env) (hpl : ((backTo p (starEach args env)).any fun x => x.1) = false)
    (hc : wpAny (model PySem.Challenge.rw_qd0072_01.row.prog w) A (call f vs) Q E (SH o h k')) : wpAny (model PySem.Challenge.rw_qd0072_01.row.prog w) A (eval (.Call ob (e :: args) [] p) env) Q E (SH o h k) :=
  Call_ (H.go _ _ (callWith_K (s := SH o h k1) (X.keeps F.keep) hkf.go (Ha.go _ _ _ ⟨X.keeps F.keep, hc⟩) hs hpl)) hcl
end
section
variable {ι : Type} {P : ι → Prop} {ad : ι → List Addr} {val : ι → Value} {led₀ : Led} {led : ι → Led} {g h' : Heap} {L : Addr} {o : Shared} {m' : Str → Option Value} {k' : Nat} {l : Led} {v : Value}
theorem R1.ret (i : ι) (hp : P i) (ha : ∀ a ∈ ad i, ∀ q ∈ led₀, q.1 ≠ a) (F : Fr g L h' m') (N : News g L h' l) (hv : v = val i) (hs : ∀ q ∈ led i, q ∈ l) : Ended (R1 P ad val led₀ led) g L o (.ret v) (SH o h' k') := ⟨h', k', m', led i, rfl, ⟨i, hp, ha, hv, rfl⟩, F, fun q hq => N q (hs q hq)⟩
theorem R1.next (i : ι) (hp : P i) (ha : ∀ a ∈ ad i, ∀ q ∈ led₀, q.1 ≠ a) (F : Fr g L h' m') (N : News g L h' l) (hv : Value.none = val i) (hs : ∀ q ∈ led i, q ∈ l) : Ended (R1 P ad val led₀ led) g L o .next (SH o h' k') := ⟨h', k', m', led i, rfl, ⟨i, hp, ha, hv, rfl⟩, F, fun q hq => N q (hs q hq)⟩
theorem R1.ret' (i : ι) (hp : P i) (ha : ∀ a ∈ ad i, ∀ q ∈ led₀, q.1 ≠ a) (F : Fr g L h' m') (N : News g L h' (led i)) (hv : v = val i) : Ended (R1 P ad val led₀ led) g L o (.ret v) (SH o h' k') := ⟨h', k', m', led i, rfl, ⟨i, hp, ha, hv, rfl⟩, F, N⟩
theorem R1.next' (i : ι) (hp : P i) (ha : ∀ a ∈ ad i, ∀ q ∈ led₀, q.1 ≠ a) (F : Fr g L h' m') (N : News g L h' (led i)) (hv : Value.none = val i) : Ended (R1 P ad val led₀ led) g L o .next (SH o h' k') := ⟨h', k', m', led i, rfl, ⟨i, hp, ha, hv, rfl⟩, F, N⟩
end
theorem nofresh {led : Led} : ∀ a ∈ ([] : List Addr), ∀ q ∈ led, q.1 ≠ a := nofun
theorem fresh1 {a : Addr} {led : Led} (h : ∀ q ∈ led, q.1 ≠ a) : ∀ b ∈ [a], ∀ q ∈ led, q.1 ≠ b := fun b hb => (List.mem_singleton.mp hb) ▸ h
theorem fresh2 {a b : Addr} {led : Led} (h : ∀ q ∈ led, q.1 ≠ a) (h2 : ∀ q ∈ led, q.1 ≠ b) : ∀ c ∈ [a, b], ∀ q ∈ led, q.1 ≠ c := fun c hc => (List.mem_cons.mp hc).elim (fun e => e ▸ h) fun e => (List.mem_singleton.mp e) ▸ h2
theorem fresh_lt {d : Addr} {led : Led} (h : AllLt d led) : ∀ q ∈ led, q.1 ≠ d := fun q hq => Nat.ne_of_lt (kst_ltOf h q hq)
theorem push_arr {xs : List Value} {v : Value} : (xs ++ [v]).toArray = xs.toArray.push v := by simp
theorem size_arr {xs : List Value} {n : Nat} (h : xs.length ≤ n) (hn : n ≤ 16777216) : xs.toArray.size ≤ sizeLine := by rw [PySem.sizeLine_eq, List.size_toArray]; omega
structure SetF (K : Frag) (C : Addr) (name : Str) : Prop where
  go : findIn K (.ref C) "__setattr__" = some (some (.builtin "object.__setattr__")) ∧ plainOver K C = true ∧ takerIn K C name = some none ∧ hasDictIn K C = true
noncomputable def setOk (K : Frag) (C : Addr) (name : Str) : Bool := findIn K (.ref C) "__setattr__" == some (some (.builtin "object.__setattr__")) && (plainOver K C && (takerIn K C name == some none && hasDictIn K C))
theorem SetF.of {K : Frag} {C : Addr} {name : Str} (e : setOk K C name = true) : SetF K C name := by
  unfold setOk at e
  simp only [Bool.and_eq_true, beq_iff_eq] at e
  exact ⟨e⟩
theorem xs_att {w : World} {A : Around} {env : Env} {o : Shared} {h g : Heap} {L : Addr} {m : Str → Option Value} {news news' : Led} {e : PySem.Expr} {p p' yp : Pos} {k k1 k2 : Nat} {v : Value} {y name : Str} {E : Value → Shared → Prop} {Q : Flow → Shared → Prop} {prog : Program} {xx C dx : Addr} {es es' : List DictEntry} {n n' : Nat}
    (F : Fr g L h m) (X : (Mine.K w.params).In g) (N : News g L h news) (He : Ev ⟨prog, w, A, env, o⟩ h e k v k1) (Ho : Ev ⟨prog, w, A, env, o⟩ h (.Name y yp) k1 (.ref xx) k2) (hx : (xx, instObj C dx) ∈ news) (hd : (dx, dictOf es n) ∈ news) (sf : SetF (Mine.K w.params) C name) (hg : (getL name es).isSome = true)
    (hp : (putL name (PyData.keyHash w.params name) (.str name (k2 + 1)) v es, putN name es n) = (es', n')) (U : Upd dx (dictOf es n) (dictOf es' n') news news') (hl : Nat.ble es'.length 1000 = true) (hs : swapsWith e (some (.Attribute (.Name y yp) name p')) p.line env = pure false)
    (hc : ∀ h', Fr g L h' m → News g L h' news' → Q .next (SH o h' (k2 + 2))) : wpAny (model prog w) A (exec (.Assign [.Attribute (.Name y yp) name p'] e p) env) Q E (SH o h k) :=
  plainObj_wpAny_Assign_Attribute (He.go _ _ (Ho.go _ _ (set_dict (s := SH o h k2) F X N (InstAt.of_news N hx hd) rfl sf.go.1 sf.go.2.1 sf.go.2.2.1 sf.go.2.2.2 hg hp U (Nat.le_of_ble_eq_true hl) hc))) hs
theorem R1.init {ι : Type} {P : ι → Prop} {ad : ι → List Addr} {val : ι → Value} {led₀ : Led} {led : ι → Led} {g h' : Heap} {L : Addr} {o : Shared} {m' : Str → Option Value} {k' : Nat} {v : Value} (i : ι) (hp : P i) (ha : ∀ a ∈ ad i, ∀ q ∈ led₀, q.1 ≠ a) (F : Fr g L h' m') (N : News g L h' (led i)) (hv : v = val i) :
    Ended (fun r l => r = .none ∧ R1 P ad val led₀ led v l) g L o .next (SH o h' k') := ⟨h', k', m', led i, rfl, ⟨rfl, i, hp, ha, hv, rfl⟩, F, N⟩
theorem fresh3 {a b d : Addr} {led : Led} (h : ∀ q ∈ led, q.1 ≠ a) (h2 : ∀ q ∈ led, q.1 ≠ b) (h3 : ∀ q ∈ led, q.1 ≠ d) : ∀ c ∈ [a, b, d], ∀ q ∈ led, q.1 ≠ c := fun c hc => (List.mem_cons.mp hc).elim (fun e => e ▸ h) (fresh2 h2 h3 c)
theorem fresh_of {d : Addr} {led : Led} (h : ∀ p ∈ led, p.1 < d) : ∀ q ∈ led, q.1 ≠ d := fun q hq => Nat.ne_of_lt (h q hq)
section
variable {w : World} {f : Addr} {vs : List Value} {d u : Nat} {dp un : Nat} {gd : Option (List Code)} {cn : Str} {cs : Scope} {a : Addr} {ccd : Value} {cl : List (Str × Addr)} {outer : List Env} {A₀ : Around} {base h₀ h : Heap} {L : Addr} {m : Str → Option Value} {ob : Shared} {k : Nat} {Q E : Value → Shared → Prop}
    {p : Program} {loose : List Str} {mean : ExcName → Option Value} {mg mb : Str → Option Value} {news : Led} {ι : Type}
/-- x and y changed -/
theorem call2 {val : ι → Value} {P : ι → Prop} {x y : Addr} {o q : Obj} {o' q' : ι → Obj} {reads : Led} {mid news' more : ι → Led} {ad : ι → List Addr}
    (C : ∀ rest : Led, (∀ p ∈ rest, p.1 ≠ x) → (∀ p ∈ rest, p.1 ≠ y) → Ct w f vs d u ((x, o) :: (y, q) :: (reads ++ rest)) (R1 P ad val ((x, o) :: (y, q) :: (reads ++ rest)) (fun i => more i ++ (x, o' i) :: (y, q' i) :: (reads ++ rest))))
    (B : Below A₀ base outer h₀) (F : Fr h₀ L h m) (X : (Mine.K w.params).In h₀) (N : News h₀ L h news) (T : Top p loose mean mg mb h₀) (hk : cs.kind = .function) (hd : dp + d < recursionLimit) (hu : un + u < cLine)
    (hx : (x, o) ∈ news) (hy : (y, q) ∈ news) (hr : ∀ q ∈ reads, q ∈ news) (U : ∀ i, Upd x o (o' i) news (mid i)) (V : ∀ i, Upd y q (q' i) (mid i) (news' i))
    (ret : ∀ i h' tk', P i → AllF (ad i) news → Fr h₀ L h' m → News h₀ L h' (more i ++ news' i) → Q (val i) (SH ob h' tk')) :
    wpAny (model PySem.Challenge.rw_qd0072_01.row.prog w) (ktrTop dp un gd cn cs L a ccd cl outer) (call (.ref f) vs) Q E (SH ob h k) := by
  let rest : Led := news.filter fun q => q.1 != x && q.1 != y
  have hm : ∀ q ∈ rest, q ∈ news ∧ q.1 ≠ x ∧ q.1 ≠ y := fun q hq => ⟨(List.mem_filter.mp hq).1, by simpa using (List.mem_filter.mp hq).2⟩
  have N0 : News h₀ L h ((x, o) :: (y, q) :: (reads ++ rest)) := by
    intro z hz
    rcases List.mem_cons.mp hz with rfl | hz
    · exact N _ hx
    rcases List.mem_cons.mp hz with rfl | hz
    · exact N _ hy
    · rcases List.mem_append.mp hz with hz | hz
      · exact N _ (hr z hz)
      · exact N _ (hm z hz).1
  refine (C rest (fun z hz => (hm z hz).2.1) (fun z hz => (hm z hz).2.2)).ctr _ _ _ _ _ _ _ _ _ _ _ _ _ _ (SH ob h k) _ _ _ _ _ _ _ B F X N0 T hk hd hu ?_
  rintro r l h' tk' ⟨i, hp, ha, rfl, rfl⟩ F' N'
  refine ret i h' tk' hp (AllF.of fun b hbi z hz => ?_) F' ?_
  · by_cases e : z.1 = x
    · rw [e]; exact ha b hbi (x, o) List.mem_cons_self
    · by_cases e2 : z.1 = y
      · rw [e2]; exact ha b hbi (y, q) (List.mem_cons_of_mem _ List.mem_cons_self)
      · exact ha b hbi z (List.mem_cons_of_mem _ (List.mem_cons_of_mem _ (List.mem_append_right _ (List.mem_filter.mpr ⟨hz, by simpa using ⟨e, e2⟩⟩))))
  obtain ⟨pre, post, e1, e2, h1, h2⟩ := (V i).split
  obtain ⟨pre', post', e3, e4, h3, h4⟩ := (U i).split
  have old : ∀ z ∈ mid i, z.1 ≠ y → News h₀ L h' [z] := by
    intro z hz hzy
    rw [e4] at hz
    have far : z ∈ news → z.1 ≠ x → News h₀ L h' [z] := fun hn hzx t ht => by
      rw [List.mem_singleton.mp ht]
      exact N' z (List.mem_append_right _ (List.mem_cons_of_mem _ (List.mem_cons_of_mem _ (List.mem_append_right _ (List.mem_filter.mpr ⟨hn, by simpa using ⟨hzx, hzy⟩⟩)))))
    rcases List.mem_append.mp hz with hz | hz
    · exact far (by rw [e3]; exact List.mem_append_left _ hz) (h3 z hz)
    · rcases List.mem_cons.mp hz with rfl | hz
      · intro t ht
        rw [List.mem_singleton.mp ht]
        exact N' _ (List.mem_append_right _ List.mem_cons_self)
      · exact far (by rw [e3]; exact List.mem_append_right _ (List.mem_cons_of_mem _ hz)) (h4 z hz)
  rw [e2]
  intro z hz
  rcases List.mem_append.mp hz with hz | hz
  · exact N' z (List.mem_append_left _ hz)
  rcases List.mem_append.mp hz with hz | hz
  · exact old z (by rw [e1]; exact List.mem_append_left _ hz) (h1 z hz) z (List.mem_singleton.mpr rfl)
  · rcases List.mem_cons.mp hz with rfl | hz
    · exact N' _ (List.mem_append_right _ (List.mem_cons_of_mem _ List.mem_cons_self))
    · exact old z (by rw [e1]; exact List.mem_append_right _ (List.mem_cons_of_mem _ hz)) (h2 z hz) z (List.mem_singleton.mpr rfl)
end
theorem Ct.ofC {w : World} {f : Addr} {vs : List Value} {d u : Nat} {news : Led} {Post : Value → Led → Prop} {name qual : Str} {params : Arguments} {body : List Stmt} {scope : Scope} {dV kV doc pm cdv ct oc : Value} {an od : Option Addr} {osl : Array (Option Value)}
    (binds : List (Str × Value))
    (ho : (Mine.K w.params).lookup f = some ⟨oc, od, .func (fnOf name qual params body scope dV kV doc pm an cdv ct), osl⟩) (hcd : codeIn (Mine.K w.params) cdv qual = true)
    (hb : ∀ s : Shared, (Mine.K w.params).In s.heap → BindsTo s (fnOf name qual params body scope dV kV doc pm an cdv ct) ⟨vs, []⟩ binds)
    (hl : (binds.all fun y => scope.names.lookup y.1 == some .local || scope.names.lookup y.1 == some .cell) = true) (hnd : ((cellsFrom 0 scope.names []).map (·.1)).Nodup)
    (hco : scope.isCoroutine = false) (hgen : scope.isGenerator = false) (hk : scope.kind = .function)
    (H : ∀ (dp un : Nat) (gd : Option (List Code)) (outer : List Env) (A₀ : Around) (base g : Heap) (L : Addr) (cells : Led) (h : Heap) (o : Shared) (k : Nat) (p : Program) (loose : List Str) (mean : ExcName → Option Value) (mg mb : Str → Option Value) (E : Value → Shared → Prop),
      Below A₀ base outer g → Fr g L h (bindL (envOfC qual scope L f cdv).kindOf binds fun _ => none) → (Mine.K w.params).In g → News g L h (cells ++ news) →
      CellsAre (bindC (envOfC qual scope L f cdv).kindOf binds fun _ => none) (cellsFrom (L + 1) scope.names []) cells → Top p loose mean mg mb g → dp + d ≤ recursionLimit → un + u < cLine + 3 → FnEnv (envOfC qual scope L f cdv) L → PassesOwn (model PySem.Challenge.rw_qd0072_01.row.prog w) (ktrTop dp un gd qual scope L f cdv (cellsFrom (L + 1) scope.names []) outer) (envOfC qual scope L f cdv) E →
      (∀ p ∈ news, p.1 < L) →
      wpAny (model PySem.Challenge.rw_qd0072_01.row.prog w) (ktrTop dp un gd qual scope L f cdv (cellsFrom (L + 1) scope.names []) outer) (execs body (envOfC qual scope L f cdv)) (Ended Post g L o) E (SH o h k)) : Ct w f vs d u news Post := by
  intro dp un gd cn cs a ccd cl outer A₀ base h₀ L m s R p loose mean mg mb B F X N T hck hd hu hret
  refine code_defC B F X N T rfl rfl hck ho hcd (Nat.lt_of_le_of_lt (Nat.le_add_right _ _) hd) (hb s (X.keeps F.keep)) hl hnd (fun g L' h' tk' cells FG' F' N' Y' B' X' T' l1 => ?_) hco hgen hk
  refine wpAny_mono (H (dp + 1) (un + 3) gd (envX cn cs L a ccd cl :: outer) _ base g L' cells h' s tk' p loose mean mg mb _ B' F' X' N' Y' T' (by omega) (by omega) ⟨_, _, _, _, _, rfl, hk⟩ (by passes_own) l1) (fun fl s' q => ?_) fun _ _ x => x
  obtain ⟨h2, k2, m2, news2, rfl, hp, F2, N2⟩ := q
  refine leaveK_ F2 N2 fun kF kN => ?_
  exact hret _ _ _ _ (by cases fl <;> exact hp) kF kN
theorem Ev.cel {c : DC} {h g : Heap} {L x1 : Addr} {news : Led} {x : Str} {pos : Pos} {k : Nat} {v : Value} {ob : Obj} (he : FnEnv c.env L) (N : News g L h news) (hc : c.env.cells.lookup x = some x1) (hm : (x1, ob) ∈ news) (hv : ob.data = .cell (some v)) (hx : c.env.kindOf x = some .cell) (hd : (x == ("__debug__" : Str)) = false) : Ev c h (.Name x pos) k v k := by
  obtain ⟨prog, w, A, env, o⟩ := c
  obtain ⟨cn, cs, a, ccd, cl, rfl, hk⟩ := he
  exact ⟨fun Q E hq => nameX_C (s := SH o h k) N hc hm hv hq hk hx hd⟩
theorem Ev.fre {c : DC} {h g : Heap} {L x1 : Addr} {news : Led} {x : Str} {pos : Pos} {k : Nat} {v : Value} {ob : Obj} (he : FnEnv c.env L) (N : News g L h news) (hc : c.env.cells.lookup x = some x1) (hm : (x1, ob) ∈ news) (hv : ob.data = .cell (some v)) (hx : c.env.kindOf x = some .free) (hd : (x == ("__debug__" : Str)) = false) (hn : (x == ("__classdict__" : Str)) = false) : Ev c h (.Name x pos) k v k := by
  obtain ⟨prog, w, A, env, o⟩ := c
  obtain ⟨cn, cs, a, ccd, cl, rfl, hk⟩ := he
  exact ⟨fun Q E hq => nameX_F (s := SH o h k) N hc hm hv hq hk hx hd hn⟩
theorem Ev.celN {c : DC} {h g : Heap} {L x1 : Addr} {news : Led} {x : Str} {pos : Pos} {k : Nat} {v : Value} {ob : Obj} {names : List (Str × NameKind)} (hK : EnvOk c.env L names) (hx : (x, .cell) ∈ names) (N : News g L h news) (hc : c.env.cells.lookup x = some x1) (hm : (x1, ob) ∈ news) (hv : ob.data = .cell (some v)) : Ev c h (.Name x pos) k v k := Ev.cel hK.fn N hc hm hv (hK.go hx) (hK.nd hx)
theorem Ev.freN {c : DC} {h g : Heap} {L x1 : Addr} {news : Led} {x : Str} {pos : Pos} {k : Nat} {v : Value} {ob : Obj} {names : List (Str × NameKind)} (hK : EnvOk c.env L names) (hx : (x, .free) ∈ names) (N : News g L h news) (hc : c.env.cells.lookup x = some x1) (hm : (x1, ob) ∈ news) (hv : ob.data = .cell (some v)) (hn : (x == ("__classdict__" : Str)) = false) : Ev c h (.Name x pos) k v k := Ev.fre hK.fn N hc hm hv (hK.go hx) (hK.nd hx) hn
section
variable {prog : Program} {w : World} {A : Around} {s : Shared} {K : Frag} {p : Program} {loose : List Str} {mean : ExcName → Option Value} {mg mb : Str → Option Value} {A₀ : Around} {base h₀ : Heap} {outer : List Env} {L : Addr} {m : Str → Option Value} {news : Led}
    {env : Env} {R : Result → Shared → Prop} {name qual : Str} {params : Arguments} {body : List Stmt} {scope : Scope} {dV kV doc pm cdv ct oc : Value} {an od : Option Addr} {osl : Array (Option Value)} {f : Addr} {args : Args} {binds : List (Str × Value)}
theorem code_defE
    (B : Below A₀ base outer h₀) (F : Fr h₀ L s.heap m) (X₀ : K.In h₀) (N : News h₀ L s.heap news) (T : Top p loose mean mg mb h₀) (hA : A.frames = some (env :: outer)) (hf : env.frame = some L) (hke : env.scope.kind = .function)
    (ho : K.lookup f = some ⟨oc, od, .func (fnOf name qual params body scope dV kV doc pm an cdv ct), osl⟩) (hcd : codeIn K cdv qual = true) (hroom : A.depth < recursionLimit)
    (hbind : BindsTo s (fnOf name qual params body scope dV kV doc pm an cdv ct) args binds) (hloc : ∀ y ∈ binds, scope.names.lookup y.1 = some .local)
    (hco : scope.isCoroutine = false) (hgen : scope.isGenerator = false) (hk : scope.kind = .function)
    (hcell : (scope.names.all fun x => x.2 != .cell) = true)
    (h : ∀ g L' h₁, Fr h₀ L g m → Fr g L' h₁ (fun y => binds.reverse.lookup y) → News g L' h₁ news → Below A base (env :: outer) g → K.In g → Top p loose mean mg mb g → FnEnv (envOf qual scope L' f cdv) L' →
      wpAny (model prog w) (A.deeper (envOf qual scope L' f cdv)) (execs body (envOf qual scope L' f cdv))
        (fun fl s' => LeaveK h₀ L m g R (match fl with | .ret v => v | _ => .none) s')
        (fun e s' => wpAny (model prog w) (A.deeper (envOf qual scope L' f cdv)) (leaving (envOf qual scope L' f cdv) e) (fun _ s'' => R (.error e) s'') (fun e' s'' => R (.error e') s'') s')
        { s with heap := h₁, toks := s.toks + binds.length }) : codeAny (model prog w) A (.call (.ref f) args) R s :=
  code_def B F X₀ N T hA hf hke ho hcd hroom hbind hloc (fun g L' h₁ a1 a2 a3 a4 a5 a6 => h g L' h₁ a1 a2 a3 a4 a5 a6 ⟨_, _, _, _, _, rfl, hk⟩) hco hgen hk (fun x hx => by simpa using List.all_eq_true.mp hcell x hx)
theorem code_defCE
    (B : Below A₀ base outer h₀) (F : Fr h₀ L s.heap m) (X₀ : K.In h₀) (N : News h₀ L s.heap news) (T : Top p loose mean mg mb h₀) (hA : A.frames = some (env :: outer)) (hf : env.frame = some L) (hke : env.scope.kind = .function)
    (ho : K.lookup f = some ⟨oc, od, .func (fnOf name qual params body scope dV kV doc pm an cdv ct), osl⟩) (hcd : codeIn K cdv qual = true) (hroom : A.depth < recursionLimit)
    (hbind : BindsTo s (fnOf name qual params body scope dV kV doc pm an cdv ct) args binds) (hkind : (binds.all fun y => scope.names.lookup y.1 == some .local || scope.names.lookup y.1 == some .cell) = true)
    (hnd : ((cellsFrom 0 scope.names []).map (·.1)).Nodup) (hco : scope.isCoroutine = false) (hgen : scope.isGenerator = false) (hk : scope.kind = .function)
    (h : ∀ g L' h₁ tk cells, Fr h₀ L g m → Fr g L' h₁ (bindL (envOfC qual scope L' f cdv).kindOf binds fun _ => none) → News g L' h₁ (cells ++ news) →
      CellsAre (bindC (envOfC qual scope L' f cdv).kindOf binds fun _ => none) (cellsFrom (L' + 1) scope.names []) cells → Below A base (env :: outer) g → K.In g → Top p loose mean mg mb g → (∀ p ∈ news, p.1 < L') → FnEnv (envOfC qual scope L' f cdv) L' →
      wpAny (model prog w) (A.deeper (envOfC qual scope L' f cdv)) (execs body (envOfC qual scope L' f cdv))
        (fun fl s' => LeaveK h₀ L m g R (match fl with | .ret v => v | _ => .none) s')
        (fun e s' => wpAny (model prog w) (A.deeper (envOfC qual scope L' f cdv)) (leaving (envOfC qual scope L' f cdv) e) (fun _ s'' => R (.error e) s'') (fun e' s'' => R (.error e') s'') s')
        { s with heap := h₁, toks := tk }) : codeAny (model prog w) A (.call (.ref f) args) R s :=
  code_defC B F X₀ N T hA hf hke ho hcd hroom hbind hkind hnd (fun g L' h₁ tk cells a1 a2 a3 a4 a5 a6 a7 a8 => h g L' h₁ tk cells a1 a2 a3 a4 a5 a6 a7 a8 ⟨_, _, _, _, _, rfl, hk⟩) hco hgen hk
end
/-- a while that turns n times more, at most -/
structure WT (prog : Program) (w : World) (A : Around) (env : Env) (test : PySem.Expr) (body : List Stmt) (Q : Flow → Shared → Prop) (E : Value → Shared → Prop) (P : Shared → Prop) (s : Shared) : Prop where
  go : wpAny (model prog w) A (isTrue test env (eval test env)) (fun b s₂ => if b = true then wpAny (model prog w) A (execs body env) (fun f s₃ => match f with
    | .ret v => Q (.ret v) s₃
    | .brk => Q .next s₃
    | _ => P s₃) E s₂ else Q .next s₂) E s
noncomputable def WN (prog : Program) (w : World) (A : Around) (env : Env) (test : PySem.Expr) (body : List Stmt) (Q : Flow → Shared → Prop) (E : Value → Shared → Prop) : Nat → Shared → Prop
  | 0 => fun _ => False
  | n + 1 => WT prog w A env test body Q E (WN prog w A env test body Q E n)
/-- a turn ends in the state that the next one begins in -/
structure TE (g : Heap) (L : Addr) (o : Shared) {σ : Type} (led : σ → Led) (ps : σ → List (Str × Value)) (stored : List Str) (m₀ : Str → Option Value) (s : Shared) : Prop where
  go : ∃ (c : σ) (h : Heap) (k : Nat) (m : Str → Option Value), s = SH o h k ∧ Fr g L h m ∧ News g L h (led c) ∧ (∀ p ∈ ps c, m p.1 = some p.2) ∧ (∀ z, (∀ p ∈ ps c, z ≠ p.1) → stored.contains z = false → m z = m₀ z)
section
variable {prog : Program} {w : World} {A : Around} {env : Env} {test : PySem.Expr} {body : List Stmt} {Q : Flow → Shared → Prop} {E : Value → Shared → Prop} {g h : Heap} {L : Addr} {o s : Shared} {k : Nat} {m₀ m : Str → Option Value} {pos : Pos} {P P' : Shared → Prop}
theorem WT.mono (H : WT prog w A env test body Q E P s) (hp : ∀ s, P s → P' s) : WT prog w A env test body Q E P' s :=
  ⟨wpAny_mono H.go (fun b s₂ q => by
    cases b with
    | false => exact q
    | true =>
      simp only [if_true] at q ⊢
      exact wpAny_mono q (fun f s₃ q => by cases f <;> first | exact q | exact hp _ q) fun _ _ x => x) fun _ _ x => x⟩
theorem while_wn (n : Nat) (H : WN prog w A env test body Q E n s) (hE : PassesOwn (model prog w) A env E) : wpAny (model prog w) A (exec (.While test body [] pos) env) Q E s := by
  refine wpAny_While (codeAny_whileLoop (fun n s' => WN prog w A env test body Q E n s') ?_ n H)
  rintro n s' H
  cases n with
  | zero => exact H.elim
  | succ n =>
  refine wpAny_mono (WT.go H) (fun b s₂ h₂ => ?_) hE
  cases b with
  | false =>
    simp only [Bool.false_eq_true, if_false] at h₂ ⊢
    exact wpAny_execs_nil h₂
  | true =>
    simp only [if_true] at h₂ ⊢
    refine wpAny_mono h₂ (fun f s₃ h₃ => ?_) hE
    cases f with
    | next => exact ⟨n, Nat.lt_succ_self n, h₃⟩
    | cont => exact ⟨n, Nat.lt_succ_self n, h₃⟩
    | brk => exact h₃
    | ret v => exact h₃
/-- one turn, then the rest -/
theorem WN.turn {n : Nat} (H : WT prog w A env test body Q E (WN prog w A env test body Q E n) s) : WN prog w A env test body Q E (n + 1) s := H
/-- k turns alike, then the rest -/
theorem WN.count {σ : Type} (n j : Nat) (led : Nat → σ → Led) (ps : Nat → σ → List (Str × Value)) (stored : List Str) (c₀ : σ) (F : Fr g L h m₀) (N : News g L h (led 0 c₀)) (hk : ∀ p ∈ ps 0 c₀, m₀ p.1 = some p.2)
    (turn : ∀ (i : Nat) (c : σ) (u : Str → Option Value) (h : Heap) (tk : Nat), i < n → Fr g L h (kstB (fun z => if stored.contains z then u z else m₀ z) (ps i c)) → News g L h (led i c) → WT prog w A env test body Q E (TE g L o (led (i + 1)) (ps (i + 1)) stored m₀) (SH o h tk))
    (fin : ∀ (c : σ) (u : Str → Option Value) (h : Heap) (tk : Nat), Fr g L h (kstB (fun z => if stored.contains z then u z else m₀ z) (ps n c)) → News g L h (led n c) → WN prog w A env test body Q E j (SH o h tk)) : WN prog w A env test body Q E (n + j) (SH o h k) := by
  have key : ∀ d i s, i + d = n → TE g L o (led i) (ps i) stored m₀ s → WN prog w A env test body Q E (d + j) s := by
    intro d
    induction d with
    | zero =>
      rintro i s hi ⟨c, h, k, m, rfl, F, N, h1, h2⟩
      obtain rfl : i = n := by omega
      rw [Nat.zero_add]
      exact fin c m h k (ksw_fr h1 h2 F) N
    | succ d ih =>
      rintro i s hi ⟨c, h, k, m, rfl, F, N, h1, h2⟩
      rw [Nat.add_right_comm]
      exact WN.turn ((turn i c m h k (by omega) (ksw_fr h1 h2 F) N).mono fun s q => ih (i + 1) s (by omega) q)
  exact key n 0 _ (by omega) ⟨c₀, h, k, m₀, rfl, F, N, hk, fun _ _ _ => rfl⟩
theorem TE.of {σ : Type} {led : σ → Led} {ps : σ → List (Str × Value)} {stored : List Str} {news : Led} (c : σ) (F : Fr g L h m) (N : News g L h news) (hn : ∀ p ∈ led c, p ∈ news) (hk : ∀ p ∈ ps c, m p.1 = some p.2) (hr : ∀ z, (∀ p ∈ ps c, z ≠ p.1) → stored.contains z = false → m z = m₀ z) : TE g L o led ps stored m₀ (SH o h k) :=
  ⟨c, h, k, m, rfl, F, fun p hp => N p (hn p hp), hk, hr⟩
end
/-- a comprehension, turn after turn; c: what a turn leaves in the ledger -/
theorem comp_nat {prog : Program} {w : World} {A : Around} {h₀ : Heap} {L : Addr} {m : Str → Option Value} {env : Env} {elt : PySem.Expr} {x : Str} {scope : Scope} {cl : List (Str × Addr)} {s : Shared} {S : Led → Prop} {P : Nat → Value → Prop} {Fin : List Value → Led → Prop} {σ : Type}
    (led : Nat → σ → Led) (R : Nat → σ → Prop) (ysOf : Nat → σ → List Value) {n : Nat} (c₀ : σ) {news : Led} (hn : led 0 c₀ = news) (h0 : R 0 c₀) (hy : ysOf 0 c₀ = [])
    (turn : ∀ (i : Nat) (c : σ) (v : Value) (I : Addr) (oI : Obj) (C : Addr) (oC : Obj) (D : Addr) (m₂ : Str → Option Value) (h : Heap) (tk : Nat) (E' : Value → Shared → Prop), i < n → R i c → P i v → LCg.NsObj oC m₂ → m₂ x = some v → Fr h₀ L h m → News h₀ L h ((I, oI) :: (C, oC) :: (D, LCg.lst (ysOf i c)) :: led i c) → LCg.Off3 I C D (led i c) → ((@Ne Nat I C) ∧ (@Ne Nat I D) ∧ (@Ne Nat C D)) →
      wpAny (model prog w) A (eval elt (compEnvC scope cl C env)) (LCg.CompEnd h₀ L m { s with heap := h, toks := tk } I oI C oC D (LCg.lst (ysOf i c)) S (fun y nw' => ∃ c', nw' = led (i + 1) c' ∧ R (i + 1) c' ∧ ysOf i c ++ [y] = ysOf (i + 1) c')) E' { s with heap := h, toks := tk })
    (fin : ∀ c, R n c → Fin (ysOf n c) (led n c)) : LCg.CompRest prog w A h₀ L m env elt x scope cl s S P Fin n 0 [] news := by
  have key : ∀ (j i : Nat) (c : σ), i + j = n → R i c → LCg.CompRest prog w A h₀ L m env elt x scope cl s S P Fin j i (ysOf i c) (led i c) := by
    intro j
    induction j with
    | zero =>
      intro i c hi hR
      obtain rfl : i = n := by omega
      exact LCg.CompRest.zero (fin c hR)
    | succ j ih =>
      intro i c hi hR
      refine LCg.CompRest.succ ?_
      intro v I oI C oC D m₂ h tk E' hv hC hx F N off ne
      refine wpAny_mono (turn i c v I oI C oC D m₂ h tk E' (by omega) hR hv hC hx F N off ne) (fun y s₂ hq => ?_) fun _ _ e => e
      obtain ⟨h', tk', nw', e, F', N', off', hS, c', rfl, hR', hy'⟩ := hq
      have z := ih (i + 1) c' (by omega) hR'
      rw [← hy'] at z
      exact ⟨h', tk', _, e, F', N', off', hS, z⟩
  rw [← hy, ← hn]
  exact key n 0 c₀ (by omega) h0
theorem room2 {dp d d2 D : Nat} (j : Nat) (hd : dp + d ≤ recursionLimit) (e : D = dp + j) (h : Nat.blt (j + d2) d = true) : D + d2 < recursionLimit := by
  have := Nat.blt_eq.mp h
  omega
theorem roomU2 {un u u2 U : Nat} (j : Nat) (hu : un + u < cLine + 3) (e : U = un + j) (h : Nat.ble (u2 + j + 3) u = true) : U + u2 < cLine := by
  have := Nat.le_of_ble_eq_true h
  omega

theorem ne_cell {h₀ h : Heap} {L a b : Addr} {oa ob : Obj} {news : Led} {v : Option Value} (N : News h₀ L h news) (ha : (a, oa) ∈ news) (hb : (b, ob) ∈ news) (hd : oa.data = .cell v) (hk : Nat.beq (dataTag ob.data) 6 = false) : a ≠ b := by
  rintro rfl
  have := (N _ ha).1.symm.trans (N _ hb).1
  cases this
  rw [hd] at hk
  cases hk
theorem ne_cell' {h₀ h : Heap} {L a b : Addr} {oa ob : Obj} {news : Led} {v : Option Value} (N : News h₀ L h news) (ha : (a, oa) ∈ news) (hb : (b, ob) ∈ news) (hd : ob.data = .cell v) (hk : Nat.beq (dataTag oa.data) 6 = false) : a ≠ b := (ne_cell N hb ha hd hk).symm
theorem dpl {dp a b R : Nat} (h : dp + a ≤ R) (e : Nat.ble b a = true) : dp + b ≤ R := by
  have := Nat.le_of_ble_eq_true e
  omega
theorem unl {un a b R : Nat} (h : un + a < R) (e : Nat.ble b a = true) : un + b < R := by
  have := Nat.le_of_ble_eq_true e
  omega
end
section
noncomputable def methsT : List (Addr × Str × Addr) := [(684, Str.ofString "count", 653), (684, Str.ofString "push", 660), (684, Str.ofString "pop", 667), (684, Str.ofString "pop_some", 674), (760, Str.ofString "run", 710), (760, Str.ofString "step", 724), (760, Str.ofString "store", 731), (760, Str.ofString "evaluate", 738), (760, Str.ofString "statements", 745), (760, Str.ofString "statement", 752), (760, Str.ofString "value", 757), (234, Str.ofString "is_done", 131), (234, Str.ofString "peek", 139), (234, Str.ofString "starts", 146), (234, Str.ofString "take", 153), (234, Str.ofString "skip", 160), (234, Str.ofString "take_while", 167), (234, Str.ofString "skip_blanks", 182), (234, Str.ofString "name", 189), (234, Str.ofString "number", 196), (234, Str.ofString "coded", 217), (234, Str.ofString "escape", 224), (234, Str.ofString "quoted", 231), (444, Str.ofString "enter", 314), (444, Str.ofString "leave", 321), (444, Str.ofString "here", 328), (444, Str.ofString "refuse", 335), (444, Str.ofString "is_sign", 343), (444, Str.ofString "skip", 350), (444, Str.ofString "need", 357), (444, Str.ofString "take", 364), (444, Str.ofString "whole", 371), (444, Str.ofString "is_closed", 378), (444, Str.ofString "statements", 385), (444, Str.ofString "statement", 413), (444, Str.ofString "expression", 420), (444, Str.ofString "unary", 427), (444, Str.ofString "atom", 434), (444, Str.ofString "items", 441)]
noncomputable def attrsT : List (Addr × Str) := [(684, Str.ofString "values"), (684, Str.ofString "names"), (684, Str.ofString "control"), (684, Str.ofString "own"), (684, Str.ofString "stack"), (684, Str.ofString "steps"), (684, Str.ofString "most"), (684, Str.ofString "is_left"), (760, Str.ofString "most"), (234, Str.ofString "text"), (234, Str.ofString "at"), (261, Str.ofString "kind"), (261, Str.ofString "worth"), (261, Str.ofString "offset"), (444, Str.ofString "text"), (444, Str.ofString "parts"), (444, Str.ofString "spot"), (444, Str.ofString "deep"), (444, Str.ofString "below"), (46, Str.ofString "offset"), (46, Str.ofString "line"), (46, Str.ofString "column")]
noncomputable def globsT : List (Str × Addr) := [(Str.ofString "need", 534), (Str.ofString "need_list", 541), (Str.ofString "need_row", 548), (Str.ofString "applied", 618), (Str.ofString "call_of_one", 611), (Str.ofString "bounded", 485), (Str.ofString "is_number", 471), (Str.ofString "position_of", 57), (Str.ofString "refused", 272), (Str.ofString "scan_dollar", 279), (Str.ofString "scan_sign", 286), (Str.ofString "scan_action", 293), (Str.ofString "joined", 455), (Str.ofString "parse_action", 462), (Str.ofString "Frame", 684), (Str.ofString "Machine", 760), (Str.ofString "Cursor", 234), (Str.ofString "Part", 261), (Str.ofString "ActionReader", 444), (Str.ofString "Position", 46), (Str.ofString "ToolError", 82), (Str.ofString "ActionError", 95), (Str.ofString "MachineError", 107), (Str.ofString "_law_draw", 771), (Str.ofString "_law_ran", 778), (Str.ofString "_law_list_right", 783), (Str.ofString "_law_text_right", 790)]
theorem methsOk (w : World) : (methsT.all fun x => methOk (Mine.K w.params) x.1 x.2.1 x.2.2) = true := by kernel_rfl
theorem attrsOk (w : World) : (attrsT.all fun x => attrOk (Mine.K w.params) x.1 x.2 && setOk (Mine.K w.params) x.1 x.2) = true := by kernel_rfl
theorem globsOk (w : World) : (globsT.all fun x => nsIn (Mine.K w.params) mainGlobals x.1 == some (some (.ref x.2)) && keepIn (Mine.K w.params) (.ref x.2)) = true := by kernel_rfl
theorem methAt {w : World} {C f : Addr} {n : Str} (h : (C, n, f) ∈ methsT) : MethF (Mine.K w.params) C n f := MethF.of (List.all_eq_true.mp (methsOk w) _ h)
theorem attrAt {w : World} {C : Addr} {n : Str} (h : (C, n) ∈ attrsT) : AttrF (Mine.K w.params) C n := AttrF.of (by have := List.all_eq_true.mp (attrsOk w) _ h; exact (Bool.and_eq_true_iff.mp this).1)
theorem setAt {w : World} {C : Addr} {n : Str} (h : (C, n) ∈ attrsT) : SetF (Mine.K w.params) C n := SetF.of (by have := List.all_eq_true.mp (attrsOk w) _ h; exact (Bool.and_eq_true_iff.mp this).2)
theorem globAt {w : World} {f : Addr} {n : Str} (h : (n, f) ∈ globsT) : GlbF (Mine.K w.params) n (.ref f) := ⟨by have := List.all_eq_true.mp (globsOk w) _ h; exact beq_iff_eq.mp (Bool.and_eq_true_iff.mp this).1⟩
theorem keepAt {w : World} {f : Addr} {n : Str} (h : (n, f) ∈ globsT) : KeepF (Mine.K w.params) (.ref f) := ⟨by have := List.all_eq_true.mp (globsOk w) _ h; exact (Bool.and_eq_true_iff.mp this).2⟩
theorem mf_684_count {w : World} : MethF (Mine.K w.params) 684 (Str.ofString "count") 653 := methAt (List.mem_of_getElem? (i := 0) rfl)
theorem mf_684_push {w : World} : MethF (Mine.K w.params) 684 (Str.ofString "push") 660 := methAt (List.mem_of_getElem? (i := 1) rfl)
theorem mf_684_pop {w : World} : MethF (Mine.K w.params) 684 (Str.ofString "pop") 667 := methAt (List.mem_of_getElem? (i := 2) rfl)
theorem mf_684_pop_some {w : World} : MethF (Mine.K w.params) 684 (Str.ofString "pop_some") 674 := methAt (List.mem_of_getElem? (i := 3) rfl)
theorem mf_760_run {w : World} : MethF (Mine.K w.params) 760 (Str.ofString "run") 710 := methAt (List.mem_of_getElem? (i := 4) rfl)
theorem mf_760_step {w : World} : MethF (Mine.K w.params) 760 (Str.ofString "step") 724 := methAt (List.mem_of_getElem? (i := 5) rfl)
theorem mf_760_store {w : World} : MethF (Mine.K w.params) 760 (Str.ofString "store") 731 := methAt (List.mem_of_getElem? (i := 6) rfl)
theorem mf_760_evaluate {w : World} : MethF (Mine.K w.params) 760 (Str.ofString "evaluate") 738 := methAt (List.mem_of_getElem? (i := 7) rfl)
theorem mf_760_statements {w : World} : MethF (Mine.K w.params) 760 (Str.ofString "statements") 745 := methAt (List.mem_of_getElem? (i := 8) rfl)
theorem mf_760_statement {w : World} : MethF (Mine.K w.params) 760 (Str.ofString "statement") 752 := methAt (List.mem_of_getElem? (i := 9) rfl)
theorem mf_760_value {w : World} : MethF (Mine.K w.params) 760 (Str.ofString "value") 757 := methAt (List.mem_of_getElem? (i := 10) rfl)
theorem mf_234_is_done {w : World} : MethF (Mine.K w.params) 234 (Str.ofString "is_done") 131 := methAt (List.mem_of_getElem? (i := 11) rfl)
theorem mf_234_peek {w : World} : MethF (Mine.K w.params) 234 (Str.ofString "peek") 139 := methAt (List.mem_of_getElem? (i := 12) rfl)
theorem mf_234_starts {w : World} : MethF (Mine.K w.params) 234 (Str.ofString "starts") 146 := methAt (List.mem_of_getElem? (i := 13) rfl)
theorem mf_234_take {w : World} : MethF (Mine.K w.params) 234 (Str.ofString "take") 153 := methAt (List.mem_of_getElem? (i := 14) rfl)
theorem mf_234_skip {w : World} : MethF (Mine.K w.params) 234 (Str.ofString "skip") 160 := methAt (List.mem_of_getElem? (i := 15) rfl)
theorem mf_234_take_while {w : World} : MethF (Mine.K w.params) 234 (Str.ofString "take_while") 167 := methAt (List.mem_of_getElem? (i := 16) rfl)
theorem mf_234_skip_blanks {w : World} : MethF (Mine.K w.params) 234 (Str.ofString "skip_blanks") 182 := methAt (List.mem_of_getElem? (i := 17) rfl)
theorem mf_234_name {w : World} : MethF (Mine.K w.params) 234 (Str.ofString "name") 189 := methAt (List.mem_of_getElem? (i := 18) rfl)
theorem mf_234_number {w : World} : MethF (Mine.K w.params) 234 (Str.ofString "number") 196 := methAt (List.mem_of_getElem? (i := 19) rfl)
theorem mf_234_coded {w : World} : MethF (Mine.K w.params) 234 (Str.ofString "coded") 217 := methAt (List.mem_of_getElem? (i := 20) rfl)
theorem mf_234_escape {w : World} : MethF (Mine.K w.params) 234 (Str.ofString "escape") 224 := methAt (List.mem_of_getElem? (i := 21) rfl)
theorem mf_234_quoted {w : World} : MethF (Mine.K w.params) 234 (Str.ofString "quoted") 231 := methAt (List.mem_of_getElem? (i := 22) rfl)
theorem mf_444_enter {w : World} : MethF (Mine.K w.params) 444 (Str.ofString "enter") 314 := methAt (List.mem_of_getElem? (i := 23) rfl)
theorem mf_444_leave {w : World} : MethF (Mine.K w.params) 444 (Str.ofString "leave") 321 := methAt (List.mem_of_getElem? (i := 24) rfl)
theorem mf_444_here {w : World} : MethF (Mine.K w.params) 444 (Str.ofString "here") 328 := methAt (List.mem_of_getElem? (i := 25) rfl)
theorem mf_444_refuse {w : World} : MethF (Mine.K w.params) 444 (Str.ofString "refuse") 335 := methAt (List.mem_of_getElem? (i := 26) rfl)
theorem mf_444_is_sign {w : World} : MethF (Mine.K w.params) 444 (Str.ofString "is_sign") 343 := methAt (List.mem_of_getElem? (i := 27) rfl)
theorem mf_444_skip {w : World} : MethF (Mine.K w.params) 444 (Str.ofString "skip") 350 := methAt (List.mem_of_getElem? (i := 28) rfl)
theorem mf_444_need {w : World} : MethF (Mine.K w.params) 444 (Str.ofString "need") 357 := methAt (List.mem_of_getElem? (i := 29) rfl)
theorem mf_444_take {w : World} : MethF (Mine.K w.params) 444 (Str.ofString "take") 364 := methAt (List.mem_of_getElem? (i := 30) rfl)
theorem mf_444_whole {w : World} : MethF (Mine.K w.params) 444 (Str.ofString "whole") 371 := methAt (List.mem_of_getElem? (i := 31) rfl)
theorem mf_444_is_closed {w : World} : MethF (Mine.K w.params) 444 (Str.ofString "is_closed") 378 := methAt (List.mem_of_getElem? (i := 32) rfl)
theorem mf_444_statements {w : World} : MethF (Mine.K w.params) 444 (Str.ofString "statements") 385 := methAt (List.mem_of_getElem? (i := 33) rfl)
theorem mf_444_statement {w : World} : MethF (Mine.K w.params) 444 (Str.ofString "statement") 413 := methAt (List.mem_of_getElem? (i := 34) rfl)
theorem mf_444_expression {w : World} : MethF (Mine.K w.params) 444 (Str.ofString "expression") 420 := methAt (List.mem_of_getElem? (i := 35) rfl)
theorem mf_444_unary {w : World} : MethF (Mine.K w.params) 444 (Str.ofString "unary") 427 := methAt (List.mem_of_getElem? (i := 36) rfl)
theorem mf_444_atom {w : World} : MethF (Mine.K w.params) 444 (Str.ofString "atom") 434 := methAt (List.mem_of_getElem? (i := 37) rfl)
theorem mf_444_items {w : World} : MethF (Mine.K w.params) 444 (Str.ofString "items") 441 := methAt (List.mem_of_getElem? (i := 38) rfl)
theorem af_684_values {w : World} : AttrF (Mine.K w.params) 684 (Str.ofString "values") := attrAt (List.mem_of_getElem? (i := 0) rfl)
theorem sf_684_values {w : World} : SetF (Mine.K w.params) 684 (Str.ofString "values") := setAt (List.mem_of_getElem? (i := 0) rfl)
theorem af_684_names {w : World} : AttrF (Mine.K w.params) 684 (Str.ofString "names") := attrAt (List.mem_of_getElem? (i := 1) rfl)
theorem sf_684_names {w : World} : SetF (Mine.K w.params) 684 (Str.ofString "names") := setAt (List.mem_of_getElem? (i := 1) rfl)
theorem af_684_control {w : World} : AttrF (Mine.K w.params) 684 (Str.ofString "control") := attrAt (List.mem_of_getElem? (i := 2) rfl)
theorem sf_684_control {w : World} : SetF (Mine.K w.params) 684 (Str.ofString "control") := setAt (List.mem_of_getElem? (i := 2) rfl)
theorem af_684_own {w : World} : AttrF (Mine.K w.params) 684 (Str.ofString "own") := attrAt (List.mem_of_getElem? (i := 3) rfl)
theorem sf_684_own {w : World} : SetF (Mine.K w.params) 684 (Str.ofString "own") := setAt (List.mem_of_getElem? (i := 3) rfl)
theorem af_684_stack {w : World} : AttrF (Mine.K w.params) 684 (Str.ofString "stack") := attrAt (List.mem_of_getElem? (i := 4) rfl)
theorem sf_684_stack {w : World} : SetF (Mine.K w.params) 684 (Str.ofString "stack") := setAt (List.mem_of_getElem? (i := 4) rfl)
theorem af_684_steps {w : World} : AttrF (Mine.K w.params) 684 (Str.ofString "steps") := attrAt (List.mem_of_getElem? (i := 5) rfl)
theorem sf_684_steps {w : World} : SetF (Mine.K w.params) 684 (Str.ofString "steps") := setAt (List.mem_of_getElem? (i := 5) rfl)
theorem af_684_most {w : World} : AttrF (Mine.K w.params) 684 (Str.ofString "most") := attrAt (List.mem_of_getElem? (i := 6) rfl)
theorem sf_684_most {w : World} : SetF (Mine.K w.params) 684 (Str.ofString "most") := setAt (List.mem_of_getElem? (i := 6) rfl)
theorem af_684_is_left {w : World} : AttrF (Mine.K w.params) 684 (Str.ofString "is_left") := attrAt (List.mem_of_getElem? (i := 7) rfl)
theorem sf_684_is_left {w : World} : SetF (Mine.K w.params) 684 (Str.ofString "is_left") := setAt (List.mem_of_getElem? (i := 7) rfl)
theorem af_760_most {w : World} : AttrF (Mine.K w.params) 760 (Str.ofString "most") := attrAt (List.mem_of_getElem? (i := 8) rfl)
theorem sf_760_most {w : World} : SetF (Mine.K w.params) 760 (Str.ofString "most") := setAt (List.mem_of_getElem? (i := 8) rfl)
theorem af_234_text {w : World} : AttrF (Mine.K w.params) 234 (Str.ofString "text") := attrAt (List.mem_of_getElem? (i := 9) rfl)
theorem sf_234_text {w : World} : SetF (Mine.K w.params) 234 (Str.ofString "text") := setAt (List.mem_of_getElem? (i := 9) rfl)
theorem af_234_at {w : World} : AttrF (Mine.K w.params) 234 (Str.ofString "at") := attrAt (List.mem_of_getElem? (i := 10) rfl)
theorem sf_234_at {w : World} : SetF (Mine.K w.params) 234 (Str.ofString "at") := setAt (List.mem_of_getElem? (i := 10) rfl)
theorem af_261_kind {w : World} : AttrF (Mine.K w.params) 261 (Str.ofString "kind") := attrAt (List.mem_of_getElem? (i := 11) rfl)
theorem sf_261_kind {w : World} : SetF (Mine.K w.params) 261 (Str.ofString "kind") := setAt (List.mem_of_getElem? (i := 11) rfl)
theorem af_261_worth {w : World} : AttrF (Mine.K w.params) 261 (Str.ofString "worth") := attrAt (List.mem_of_getElem? (i := 12) rfl)
theorem sf_261_worth {w : World} : SetF (Mine.K w.params) 261 (Str.ofString "worth") := setAt (List.mem_of_getElem? (i := 12) rfl)
theorem af_261_offset {w : World} : AttrF (Mine.K w.params) 261 (Str.ofString "offset") := attrAt (List.mem_of_getElem? (i := 13) rfl)
theorem sf_261_offset {w : World} : SetF (Mine.K w.params) 261 (Str.ofString "offset") := setAt (List.mem_of_getElem? (i := 13) rfl)
theorem af_444_text {w : World} : AttrF (Mine.K w.params) 444 (Str.ofString "text") := attrAt (List.mem_of_getElem? (i := 14) rfl)
theorem sf_444_text {w : World} : SetF (Mine.K w.params) 444 (Str.ofString "text") := setAt (List.mem_of_getElem? (i := 14) rfl)
theorem af_444_parts {w : World} : AttrF (Mine.K w.params) 444 (Str.ofString "parts") := attrAt (List.mem_of_getElem? (i := 15) rfl)
theorem sf_444_parts {w : World} : SetF (Mine.K w.params) 444 (Str.ofString "parts") := setAt (List.mem_of_getElem? (i := 15) rfl)
theorem af_444_spot {w : World} : AttrF (Mine.K w.params) 444 (Str.ofString "spot") := attrAt (List.mem_of_getElem? (i := 16) rfl)
theorem sf_444_spot {w : World} : SetF (Mine.K w.params) 444 (Str.ofString "spot") := setAt (List.mem_of_getElem? (i := 16) rfl)
theorem af_444_deep {w : World} : AttrF (Mine.K w.params) 444 (Str.ofString "deep") := attrAt (List.mem_of_getElem? (i := 17) rfl)
theorem sf_444_deep {w : World} : SetF (Mine.K w.params) 444 (Str.ofString "deep") := setAt (List.mem_of_getElem? (i := 17) rfl)
theorem af_444_below {w : World} : AttrF (Mine.K w.params) 444 (Str.ofString "below") := attrAt (List.mem_of_getElem? (i := 18) rfl)
theorem sf_444_below {w : World} : SetF (Mine.K w.params) 444 (Str.ofString "below") := setAt (List.mem_of_getElem? (i := 18) rfl)
theorem af_46_offset {w : World} : AttrF (Mine.K w.params) 46 (Str.ofString "offset") := attrAt (List.mem_of_getElem? (i := 19) rfl)
theorem sf_46_offset {w : World} : SetF (Mine.K w.params) 46 (Str.ofString "offset") := setAt (List.mem_of_getElem? (i := 19) rfl)
theorem af_46_line {w : World} : AttrF (Mine.K w.params) 46 (Str.ofString "line") := attrAt (List.mem_of_getElem? (i := 20) rfl)
theorem sf_46_line {w : World} : SetF (Mine.K w.params) 46 (Str.ofString "line") := setAt (List.mem_of_getElem? (i := 20) rfl)
theorem af_46_column {w : World} : AttrF (Mine.K w.params) 46 (Str.ofString "column") := attrAt (List.mem_of_getElem? (i := 21) rfl)
theorem sf_46_column {w : World} : SetF (Mine.K w.params) 46 (Str.ofString "column") := setAt (List.mem_of_getElem? (i := 21) rfl)
theorem gf_need {w : World} : GlbF (Mine.K w.params) (Str.ofString "need") (.ref 534) := globAt (List.mem_of_getElem? (i := 0) rfl)
theorem kf_need {w : World} : KeepF (Mine.K w.params) (.ref 534) := keepAt (n := Str.ofString "need") (List.mem_of_getElem? (i := 0) rfl)
theorem gf_need_list {w : World} : GlbF (Mine.K w.params) (Str.ofString "need_list") (.ref 541) := globAt (List.mem_of_getElem? (i := 1) rfl)
theorem kf_need_list {w : World} : KeepF (Mine.K w.params) (.ref 541) := keepAt (n := Str.ofString "need_list") (List.mem_of_getElem? (i := 1) rfl)
theorem gf_need_row {w : World} : GlbF (Mine.K w.params) (Str.ofString "need_row") (.ref 548) := globAt (List.mem_of_getElem? (i := 2) rfl)
theorem kf_need_row {w : World} : KeepF (Mine.K w.params) (.ref 548) := keepAt (n := Str.ofString "need_row") (List.mem_of_getElem? (i := 2) rfl)
theorem gf_applied {w : World} : GlbF (Mine.K w.params) (Str.ofString "applied") (.ref 618) := globAt (List.mem_of_getElem? (i := 3) rfl)
theorem kf_applied {w : World} : KeepF (Mine.K w.params) (.ref 618) := keepAt (n := Str.ofString "applied") (List.mem_of_getElem? (i := 3) rfl)
theorem gf_call_of_one {w : World} : GlbF (Mine.K w.params) (Str.ofString "call_of_one") (.ref 611) := globAt (List.mem_of_getElem? (i := 4) rfl)
theorem kf_call_of_one {w : World} : KeepF (Mine.K w.params) (.ref 611) := keepAt (n := Str.ofString "call_of_one") (List.mem_of_getElem? (i := 4) rfl)
theorem gf_bounded {w : World} : GlbF (Mine.K w.params) (Str.ofString "bounded") (.ref 485) := globAt (List.mem_of_getElem? (i := 5) rfl)
theorem kf_bounded {w : World} : KeepF (Mine.K w.params) (.ref 485) := keepAt (n := Str.ofString "bounded") (List.mem_of_getElem? (i := 5) rfl)
theorem gf_is_number {w : World} : GlbF (Mine.K w.params) (Str.ofString "is_number") (.ref 471) := globAt (List.mem_of_getElem? (i := 6) rfl)
theorem kf_is_number {w : World} : KeepF (Mine.K w.params) (.ref 471) := keepAt (n := Str.ofString "is_number") (List.mem_of_getElem? (i := 6) rfl)
theorem gf_position_of {w : World} : GlbF (Mine.K w.params) (Str.ofString "position_of") (.ref 57) := globAt (List.mem_of_getElem? (i := 7) rfl)
theorem kf_position_of {w : World} : KeepF (Mine.K w.params) (.ref 57) := keepAt (n := Str.ofString "position_of") (List.mem_of_getElem? (i := 7) rfl)
theorem gf_refused {w : World} : GlbF (Mine.K w.params) (Str.ofString "refused") (.ref 272) := globAt (List.mem_of_getElem? (i := 8) rfl)
theorem kf_refused {w : World} : KeepF (Mine.K w.params) (.ref 272) := keepAt (n := Str.ofString "refused") (List.mem_of_getElem? (i := 8) rfl)
theorem gf_scan_dollar {w : World} : GlbF (Mine.K w.params) (Str.ofString "scan_dollar") (.ref 279) := globAt (List.mem_of_getElem? (i := 9) rfl)
theorem kf_scan_dollar {w : World} : KeepF (Mine.K w.params) (.ref 279) := keepAt (n := Str.ofString "scan_dollar") (List.mem_of_getElem? (i := 9) rfl)
theorem gf_scan_sign {w : World} : GlbF (Mine.K w.params) (Str.ofString "scan_sign") (.ref 286) := globAt (List.mem_of_getElem? (i := 10) rfl)
theorem kf_scan_sign {w : World} : KeepF (Mine.K w.params) (.ref 286) := keepAt (n := Str.ofString "scan_sign") (List.mem_of_getElem? (i := 10) rfl)
theorem gf_scan_action {w : World} : GlbF (Mine.K w.params) (Str.ofString "scan_action") (.ref 293) := globAt (List.mem_of_getElem? (i := 11) rfl)
theorem kf_scan_action {w : World} : KeepF (Mine.K w.params) (.ref 293) := keepAt (n := Str.ofString "scan_action") (List.mem_of_getElem? (i := 11) rfl)
theorem gf_joined {w : World} : GlbF (Mine.K w.params) (Str.ofString "joined") (.ref 455) := globAt (List.mem_of_getElem? (i := 12) rfl)
theorem kf_joined {w : World} : KeepF (Mine.K w.params) (.ref 455) := keepAt (n := Str.ofString "joined") (List.mem_of_getElem? (i := 12) rfl)
theorem gf_parse_action {w : World} : GlbF (Mine.K w.params) (Str.ofString "parse_action") (.ref 462) := globAt (List.mem_of_getElem? (i := 13) rfl)
theorem kf_parse_action {w : World} : KeepF (Mine.K w.params) (.ref 462) := keepAt (n := Str.ofString "parse_action") (List.mem_of_getElem? (i := 13) rfl)
theorem gf_Frame {w : World} : GlbF (Mine.K w.params) (Str.ofString "Frame") (.ref 684) := globAt (List.mem_of_getElem? (i := 14) rfl)
theorem kf_Frame {w : World} : KeepF (Mine.K w.params) (.ref 684) := keepAt (n := Str.ofString "Frame") (List.mem_of_getElem? (i := 14) rfl)
theorem gf_Machine {w : World} : GlbF (Mine.K w.params) (Str.ofString "Machine") (.ref 760) := globAt (List.mem_of_getElem? (i := 15) rfl)
theorem kf_Machine {w : World} : KeepF (Mine.K w.params) (.ref 760) := keepAt (n := Str.ofString "Machine") (List.mem_of_getElem? (i := 15) rfl)
theorem gf_Cursor {w : World} : GlbF (Mine.K w.params) (Str.ofString "Cursor") (.ref 234) := globAt (List.mem_of_getElem? (i := 16) rfl)
theorem kf_Cursor {w : World} : KeepF (Mine.K w.params) (.ref 234) := keepAt (n := Str.ofString "Cursor") (List.mem_of_getElem? (i := 16) rfl)
theorem gf_Part {w : World} : GlbF (Mine.K w.params) (Str.ofString "Part") (.ref 261) := globAt (List.mem_of_getElem? (i := 17) rfl)
theorem kf_Part {w : World} : KeepF (Mine.K w.params) (.ref 261) := keepAt (n := Str.ofString "Part") (List.mem_of_getElem? (i := 17) rfl)
theorem gf_ActionReader {w : World} : GlbF (Mine.K w.params) (Str.ofString "ActionReader") (.ref 444) := globAt (List.mem_of_getElem? (i := 18) rfl)
theorem kf_ActionReader {w : World} : KeepF (Mine.K w.params) (.ref 444) := keepAt (n := Str.ofString "ActionReader") (List.mem_of_getElem? (i := 18) rfl)
theorem gf_Position {w : World} : GlbF (Mine.K w.params) (Str.ofString "Position") (.ref 46) := globAt (List.mem_of_getElem? (i := 19) rfl)
theorem kf_Position {w : World} : KeepF (Mine.K w.params) (.ref 46) := keepAt (n := Str.ofString "Position") (List.mem_of_getElem? (i := 19) rfl)
theorem gf_ToolError {w : World} : GlbF (Mine.K w.params) (Str.ofString "ToolError") (.ref 82) := globAt (List.mem_of_getElem? (i := 20) rfl)
theorem kf_ToolError {w : World} : KeepF (Mine.K w.params) (.ref 82) := keepAt (n := Str.ofString "ToolError") (List.mem_of_getElem? (i := 20) rfl)
theorem gf_ActionError {w : World} : GlbF (Mine.K w.params) (Str.ofString "ActionError") (.ref 95) := globAt (List.mem_of_getElem? (i := 21) rfl)
theorem kf_ActionError {w : World} : KeepF (Mine.K w.params) (.ref 95) := keepAt (n := Str.ofString "ActionError") (List.mem_of_getElem? (i := 21) rfl)
theorem gf_MachineError {w : World} : GlbF (Mine.K w.params) (Str.ofString "MachineError") (.ref 107) := globAt (List.mem_of_getElem? (i := 22) rfl)
theorem kf_MachineError {w : World} : KeepF (Mine.K w.params) (.ref 107) := keepAt (n := Str.ofString "MachineError") (List.mem_of_getElem? (i := 22) rfl)
theorem gf_law_draw {w : World} : GlbF (Mine.K w.params) (Str.ofString "_law_draw") (.ref 771) := globAt (List.mem_of_getElem? (i := 23) rfl)
theorem kf_law_draw {w : World} : KeepF (Mine.K w.params) (.ref 771) := keepAt (n := Str.ofString "_law_draw") (List.mem_of_getElem? (i := 23) rfl)
theorem gf_law_ran {w : World} : GlbF (Mine.K w.params) (Str.ofString "_law_ran") (.ref 778) := globAt (List.mem_of_getElem? (i := 24) rfl)
theorem kf_law_ran {w : World} : KeepF (Mine.K w.params) (.ref 778) := keepAt (n := Str.ofString "_law_ran") (List.mem_of_getElem? (i := 24) rfl)
theorem gf_law_list_right {w : World} : GlbF (Mine.K w.params) (Str.ofString "_law_list_right") (.ref 783) := globAt (List.mem_of_getElem? (i := 25) rfl)
theorem kf_law_list_right {w : World} : KeepF (Mine.K w.params) (.ref 783) := keepAt (n := Str.ofString "_law_list_right") (List.mem_of_getElem? (i := 25) rfl)
theorem gf_law_text_right {w : World} : GlbF (Mine.K w.params) (Str.ofString "_law_text_right") (.ref 790) := globAt (List.mem_of_getElem? (i := 26) rfl)
theorem kf_law_text_right {w : World} : KeepF (Mine.K w.params) (.ref 790) := keepAt (n := Str.ofString "_law_text_right") (List.mem_of_getElem? (i := 26) rfl)
end
section
section
open PySem.F
theorem noFill_tup_mul : fillsNumberSlot (.type "tuple") "mul" = pure false := by first | exact fillsNumberSlot_seq (id := "tuple.__mul__") (r := some "tuple.__rmul__") F.slot_tuple_mul.lookup (by decide +kernel) (by decide +kernel) rfl | kernel_rfl
theorem repeat_tup : seqRepeat? (.type "tuple") = pure (some (.builtin "tuple.__mul__")) := by
  kernel_rfl
end
theorem foldl_rep {v : Value} : ∀ (n : Nat) (a : Array Value), List.foldl (fun x1 x2 => x1 ++ x2) a (List.replicate n #[v]) = a ++ (List.replicate n v).toArray
  | 0, a => by simp
  | n + 1, a => by
    rw [List.replicate_succ, List.foldl_cons, foldl_rep n, List.replicate_succ]
    apply Array.ext'
    simp
theorem tup_mul_meets (l : Addr) (v : Value) (x : Int) (u : Tok) (h2 : 2 ≤ x) (h3 : x ≤ 5000) :
    Meets (Builtin.«tuple.__mul__» ⟨[.ref l, .int x u], []⟩) (fun _ R s => s.heap.get? l = some (tupOf [v]) ∧ R (.ok (.ret (Value.ref s.heap.objs.size))) { s with heap := s.heap.push (tupOf (List.replicate x.toNat v)) }) :=
  .of_wp fun prog w A R s h => by
    obtain ⟨hp, g, d, tk, os⟩ := s; obtain ⟨hl, h⟩ := h
    wp_walk
    refine wpAny_ite_false (by simp; omega) ?_
    wp_walk
    refine wpAny_ite_false (by simp; omega) ?_
    wp_walk
    refine wpAny_ite_false (by simp; omega) ?_
    wp_walk
    refine wpAny_ite_false (by simp [List.size_toArray]; omega) ?_
    wp_walk
    refine wpAny_ite_false (by simp [Builtin.Tuple.tupleTooMany, PySem.sizeLine_eq]; omega) ?_
    have e : List.foldl (fun x1 x2 => x1 ++ x2) #[] (List.replicate x.toNat #[v]) = (List.replicate x.toNat v).toArray := by rw [foldl_rep]; simp
    wp_walk
    rw [e]
    refine wpAny_ite_false (by simp [PySem.sizeLine_eq]; omega) ?_
    wp_walk
    exact ⟨_, rfl, h⟩
theorem int_mul_tup (a : Int) (t : Tok) (l : Addr) (v : Value) :
    Meets (Builtin.«int.__rmul__» ⟨[.int a t, .ref l], []⟩) (fun _ R s => s.heap.get? l = some (tupOf [v]) ∧ R (.ok (.ret Value.notImplemented)) s) :=
  .of_wp fun prog w A R s h => by obtain ⟨hp, g, d, tk, os⟩ := s; obtain ⟨hl, h⟩ := h; wp_walk; exact ⟨_, rfl, h⟩
section
variable {prog : Program} {w : World} {A : Around} {E : Value → Shared → Prop} {s : Shared} {h₀ : Heap} {L l : Addr} {m : Str → Option Value} {news : Led} {v : Value} {x : Int} {u : Tok} {Q : Value → Shared → Prop}
/-- (v,) * x -/
theorem mul_tup1 (Fm : Fr h₀ L s.heap m) (N : News h₀ L s.heap news) (hm : (l, tupOf [v]) ∈ news) (h2 : 2 ≤ x) (h3 : x ≤ 5000)
    (h : ∀ D h', Fr h₀ L h' m → News h₀ L h' ((D, tupOf (List.replicate x.toNat v)) :: news) → Q (.ref D) { s with heap := h' }) : wpAny (model prog w) A (binaryOp .Mult (.ref l) (.int x u)) Q E s := by
  have hl := (N _ hm).1
  refine wpAny_binaryOp_repeat_ref (T := "tuple") (U := "int") (by decide) ⟨_, hl, rfl⟩ (fun s' => typeIs_int s' x u) noFill_tup_mul F.fills_int_mul F.slot_int_rmul repeat_tup F.slot_int_index.lookup
    (call_meets F.slot_int_rmul (typeIs_int s x u) F.entry_int_rmul (F.args_int_rmul_2 _ _) (int_mul_tup x u l v)
      ⟨hl, rfl, ⟨_, hl, rfl⟩, call_meets F.slot_tuple_mul ⟨_, hl, rfl⟩ F.entry_tuple_mul (F.args_tuple_mul_2 _ _) (tup_mul_meets l v x u h2 h3) ⟨hl, ?_⟩⟩)
  exact h _ _ (Fm.push _) (News.push Fm N _)
/-- [v] * x -/
theorem mul_list1 {n : Nat} (Fm : Fr h₀ L s.heap m) (N : News h₀ L s.heap news) (hm : (l, W.listOf #[v] n) ∈ news) (h2 : 2 ≤ x) (h3 : x ≤ 5000)
    (h : ∀ D h', Fr h₀ L h' m → News h₀ L h' ((D, W.listOf (List.replicate x.toNat v).toArray 0) :: news) → Q (.ref D) { s with heap := h' }) : wpAny (model prog w) A (binaryOp .Mult (.ref l) (.int x u)) Q E s := by
  refine mul_list Fm N (N _ hm).1 (by omega) (by omega) (by simp; omega) fun h' F' N' => ?_
  rw [if_neg (by simp), foldl_rep] at N'
  exact h _ _ F' (by simpa using N')
end
end
section
/-- a comprehension over a tuple of the ledger, stored under a local name -/
theorem comp_tup {prog : Program} {w : World} {A : Around} {E : Value → Shared → Prop} {s : Shared} {h₀ : Heap} {L ax : Addr} {m : Str → Option Value} {env : Env} {elt iter : PySem.Expr} {x y : Str} {px py : Pos} {scope : Scope} {cl : List (Str × Addr)} {pos spos : Pos} {Q : Flow → Shared → Prop} {its : List Value} {news : Led}
    (F : Fr h₀ L s.heap m) (N : News h₀ L s.heap news) (hLe : env.locals = L)
    (hsw : swapsWith (.ListComp elt [⟨.Name x px, iter, [], 0⟩] scope pos) (some (.Name y py)) spos.line env = pure true)
    (hclos : closureFor scope env = pure cl) (hcell : ∀ z ∈ scope.names, z.2 ≠ .cell) (hkind : scope.kind = .function)
    (hnames : ∀ z ∈ scope.names, z.2 = .local → scope.names.lookup z.1 = some .local) (hx : scope.names.lookup x = some .local)
    (hy : env.kindOf y = some .local) (hp : (env.scope.kind == .class || (env.scope.kind == .module && env.locals != env.globals)) = false)
    (hh : A.handled = none) (hi : ∀ (Q : Value → Shared → Prop), Q (.ref ax) s → wpAny (model prog w) A (eval iter env) Q E s) (hm : (ax, tupOf its) ∈ news) (hz : its.length ≤ 5000)
    (R : ∀ g, LCg.CompRest prog w A h₀ L m env elt x scope cl { s with heap := g } (fun nw => (ax, tupOf its) ∈ nw) (fun i v => its[i]? = some v) (LCg.FinA h₀ L m { s with heap := g } y Q) its.length 0 [] news)
    (hs : ∀ x, foldedSetIterable iter env x = pure x) :
    wpAny (model prog w) A (exec (.Assign [.Name y py] (.ListComp elt [⟨.Name x px, iter, [], 0⟩] scope pos) spos) env) Q E s := by
  subst hLe
  rw [exec_Assign_Name_used _ _ _ _ hsw]
  refine wpAny_bind (wpAny_standAt (wpAny_bind ?_))
  show wpAny _ A (do let _ ← comprehension (.ListComp elt [⟨.Name x px, iter, [], 0⟩] scope pos) scope env _ (newList []) false (eval iter env) (some (assign (.Name y py) env))) _ _ s
  refine wpAny_bind (wpAny_mono (wpAny_comprehension_free (use := some (assign (.Name y py) env)) (Q := fun _ s' => Q .next s') rfl hs hclos hkind hnames (hi _ ?_)) (fun _ s' hq => wpAny_pure (wpAny_pure hq)) fun _ _ e => e)
  have ht : s.heap.IsTuple ax its.toArray := ⟨_, (N _ hm).1, rfl, _, rfl⟩
  have hlt : ax < s.heap.objs.size := Heap.lt_size (N _ hm).1
  refine wpAny_pyIter_tuple ht ?_
  have up : ∀ b o, s.heap.get? b = some o → (s.heap.push { cls := .type "tuple_iterator", data := .fields #[.ref ax, .int 0 0] }).get? b = some o := fun b o e => Heap.get?_push_of_some _ e
  have R' := R (s.heap.push { cls := .type "tuple_iterator", data := .fields #[.ref ax, .int 0 0] })
  have R'' : LCg.CompRest prog w A h₀ env.locals m env elt x scope cl { s with heap := s.heap.push { cls := .type "tuple_iterator", data := .fields #[.ref ax, .int 0 0] } } (fun nw => (ax, tupOf its) ∈ nw) (fun i v => its.toArray[i]? = some v) (LCg.FinA h₀ env.locals m { s with heap := s.heap.push { cls := .type "tuple_iterator", data := .fields #[.ref ax, .int 0 0] } } y Q) its.toArray.size 0 [] news := by
    simpa using R'
  refine LCg.block_U (Walks.tuple hh s.heap.objs.size ax (Nat.ne_of_lt hlt) its.toArray) (by rw [PySem.sizeLine_eq, List.size_toArray]; omega) (fun i h st => by obtain ⟨o, e, _⟩ := st.1; exact ⟨o, e⟩)
    (fun i h h' o nw st e e' _ Nw S => ⟨by obtain ⟨o', q, r⟩ := st.1; rw [e] at q; cases q; exact ⟨o, e', r⟩, ⟨_, (Nw _ S).1, rfl, _, rfl⟩⟩) hcell hkind hx
    ⟨⟨_, Heap.get?_push_size _ rfl, rfl, rfl⟩, ⟨_, up _ _ (N _ hm).1, rfl, _, rfl⟩⟩ (fun b hb => ?_)
    (F.keeps up) (N.grown up) (Nat.ne_of_lt F.ns.lt) (next_is_new F) (fun p hp => Nat.ne_of_lt (Heap.lt_size (N p hp).1)) hm R'' ?_
  · show b < (s.heap.push _).objs.size
    rw [Heap.size_push]
    rcases List.mem_cons.mp hb with rfl | hb
    · exact Nat.lt_succ_self _
    · rw [List.mem_singleton.mp hb]; exact Nat.lt_succ_of_lt hlt
  · intro D C h' tk m' ys news' F' N' o1 hn hC₀ hD₀ hCL hDL hCD offC fin
    show wpAny _ A (assign (.Name y py) env (.ref D)) _ _ _
    refine wpAny_assign_Name (wpAny_storeName_local hy F'.ns (fun h₂ hn₂ hs₂ => ?_) hp)
    have hL₀ : h₀.get? env.locals = none := Heap.get?_none_of_le F'.above
    have F₂ : Fr h₀ env.locals h₂ (fun z => if z = y then some (.ref D) else m z) := ⟨hn₂, fun b o e => hs₂.extBut b o (fun q => by rw [q, hL₀] at e; cases e) (F'.keep b o e), F'.above⟩
    refine ⟨m', hn.sameBut hs₂ hCL, fun h'' hs'' => fin D h'' _ (F₂.change hs'' hCL hC₀) (fun p hp => ?_) o1⟩
    have z : h₂.get? p.1 = some p.2 := hs₂.extBut _ _ (N' p hp).2.1 (N' p hp).1
    refine ⟨hs''.extBut _ _ ?_ z, (N' p hp).2⟩
    rcases List.mem_cons.mp hp with rfl | hp
    · exact Ne.symm hCD
    · exact offC p hp
end
section
section
variable {prog : Program} {w : World} {A : Around} {E : Value → Shared → Prop} {s : Shared} {h₀ : Heap} {L : Addr} {news : Led}
theorem ints_at : ∀ {vs us : List Value} {ns : List Int}, IntsAre vs ns → IntsAre us ns → ∀ (j : Nat) (h1 : j < vs.length) (h2 : j < us.length), PySem.SeqAt.EqAt A s vs[j] us[j] true
  | _, _, _, .cons n t h, .cons _ u h', 0, _, _ => by
    have z := PySem.SeqAt.EqAt.int_int (A := A) (s := s) n t n u
    rw [beq_self_eq_true] at z
    exact z
  | _, _, _, .cons _ _ h, .cons _ _ h', j + 1, h1, h2 => ints_at h h' j (Nat.lt_of_succ_lt_succ h1) (Nat.lt_of_succ_lt_succ h2)
theorem tup_ints {a b : Addr} {vs us : List Value} {ns : List Int} (N : News h₀ L s.heap news) (ha : (a, tupOf vs) ∈ news) (hb : (b, tupOf us) ∈ news) (h1 : IntsAre vs ns) (h2 : IntsAre us ns) (hu : A.units < cLine) : PySem.SeqAt.EqAt A s (.ref a) (.ref b) true := by
  by_cases e : a = b
  · subst e
    exact PySem.SeqAt.EqAt.same _
  · have z := PySem.SeqAt.RcAt.tuples (A := A) (s := s) (l := a) (b := b) (items := vs.toArray) (items2 := us.toArray) (e := fun _ => true) ⟨_, (N _ ha).1, rfl, _, rfl⟩ ⟨_, (N _ hb).1, rfl, _, rfl⟩ hu (fun j q1 q2 => by
      have z := ints_at (A := A.in1) (s := s) h1 h2 j (by simpa using q1) (by simpa using q2)
      simpa using z)
    refine PySem.SeqAt.EqAt.of_refs e ?_
    have e2 : ((List.range (min vs.toArray.size us.toArray.size)).all (fun _ => true) && vs.toArray.size == us.toArray.size) = true := by simp [h1.length, h2.length]
    rw [e2] at z
    exact z
theorem eq_one {a b x y : Addr} {n k : Nat} {vs us : List Value} {ns : List Int} {Q : Value → Shared → Prop} (N : News h₀ L s.heap news) (ha : (a, W.listOf #[.ref x] n) ∈ news) (hb : (b, W.listOf #[.ref y] k) ∈ news) (hx : (x, tupOf vs) ∈ news) (hy : (y, tupOf us) ∈ news) (h1 : IntsAre vs ns) (h2 : IntsAre us ns)
    (hu : A.units < cLine) (hu1 : A.in1.units < cLine) (h : Q (.bool true) s) : wpAny (model prog w) A (compareOp .Eq (.ref a) (.ref b)) Q E s := by
  refine PySem.SeqAt.eq_listAt (e := fun _ => true) ⟨_, N.get ha, rfl, _, rfl⟩ ⟨_, N.get hb, rfl, _, rfl⟩ rfl hu (fun j q1 q2 => ?_) h
  obtain rfl : j = 0 := by simpa using q1
  exact tup_ints N hx hy h1 h2 hu1
theorem ne_one {a b x y : Addr} {n k : Nat} {vs us : List Value} {ns : List Int} {Q : Value → Shared → Prop} (N : News h₀ L s.heap news) (ha : (a, W.listOf #[.ref x] n) ∈ news) (hb : (b, W.listOf #[.ref y] k) ∈ news) (hx : (x, tupOf vs) ∈ news) (hy : (y, tupOf us) ∈ news) (h1 : IntsAre vs ns) (h2 : IntsAre us ns)
    (hu : A.units < cLine) (hu1 : A.in1.units < cLine) (h : Q (.bool false) s) : wpAny (model prog w) A (compareOp .NotEq (.ref a) (.ref b)) Q E s := by
  refine cmp_ofNotEq (PySem.SeqAt.RcNeAt.lists (e := fun _ => true) ⟨_, N.get ha, rfl, _, rfl⟩ ⟨_, N.get hb, rfl, _, rfl⟩ rfl hu (fun j q1 q2 => ?_) prog w E Q h)
  obtain rfl : j = 0 := by simpa using q1
  exact tup_ints N hx hy h1 h2 hu1
end
end
section
local  macro_rules | `(tactic| size_fits) => `(tactic| skip)
section
open PySem.W
variable {prog : Program} {w : World} {A : Around} {K : Frag} {C x : Addr} {s : Shared} {h₀ : Heap} {L : Addr} {m : Str → Option Value} {news : Led} {R : Result → Shared → Prop}

theorem osa_exc {ox : Obj} {od : Option Obj} {name : Str} {tk : Tok} {v : Value} {cd : ClassData} (X : K.In s.heap) (I : W.InstAt s.heap x ox C od) (hc : clsIn K C = some cd)
    (ne : cd.mro.isEmpty = false) (ho : cd.mro.contains (.type "object") = true) (hrf : ∀ self, refuseLoop self "__setattr__" cd.mro = pure ()) (ht : takerIn K C name = some none)
    (h : ∀ b, wpAny (model prog w) A.in1 (Builtin.ObjectAttr.storeInOwnDict (.ref x) (.ref C) (.str name tk) name v b)
      (fun fin s' => match fin with | .done f => R (.ok f) s' | .again c' => c'.quiet = true ∧ codeAny (model prog w) A c' R s') (fun e s' => R (.error e) s') s) :
    codeAny (model prog w) A (.call (.builtin "object.__setattr__") ⟨[.ref x, .str name tk, v], []⟩) R s := by
  have SF := PySem.F.store_object
  have sub : Looks (model prog w) s.heap (isInstance (.ref x) (.type "object")) true := I.type.andThen (looks_mroIn X (by unfold mroIn; rw [hc, Option.bind_some, if_neg (by rw [ne]; decide), ho]))
  refine codeAny_call_builtin SF.slot.plain SF.entry (@check_slot (model prog w) _ _ s "object.__setattr__" "object" "__setattr__" (.ref x) [.str name tk, v] [] _ SF.kind SF.split sub (SF.args (.ref x) (.str name tk) v) ?_)
  obtain ⟨attr, ha, hr⟩ := Option.bind_eq_some_iff.mp ht
  have hm : Looks (model prog w) s.heap (mroOf (.ref C)) cd.mro := (looks_clsIn X hc).andThen .now
  have L3 : Looks (model prog w) s.heap (Builtin.ObjectAttr.storeTaker? attr) none := by
    cases attr with
    | none => cases hr; exact .now
    | some a =>
      obtain ⟨b, hb, hq⟩ := Option.map_eq_some_iff.mp hr
      cases b <;> cases hq
      refine (looks_takesIn X hb).andThen ?_
      exact .now
  rw [osa_eq, refuse_eq]
  refine wpAny_bind (wpAny_bind (I.type.here (wpAny_bind (hm.here ?_))))
  rw [hrf]
  refine wpAny_pure (wpAny_bind (I.type.here (wpAny_bind ((looks_findIn X ha).here (wpAny_bind (L3.here ?_))))))
  exact h _
noncomputable def excCls (K : Frag) (C P : Addr) : Bool := (clsIn K C).any fun cd => cd.mro == [.ref C, .ref P, .type "Exception", .type "BaseException", .type "object"] && cd.hasDict && !cd.hasDel
theorem excCls_ {K : Frag} {C P : Addr} (e : excCls K C P = true) : ∃ cd, clsIn K C = some cd ∧ cd.mro = [.ref C, .ref P, .type "Exception", .type "BaseException", .type "object"] ∧ cd.hasDict = true ∧ cd.hasDel = false := by
  obtain ⟨cd, hc, h⟩ := any_some e
  simp only [Bool.and_eq_true, beq_iff_eq, Bool.not_eq_true'] at h
  exact ⟨cd, hc, h.1.1, h.1.2, h.2⟩
theorem refuse_exc (self : Value) (C P : Addr) : refuseLoop self "__setattr__" [.ref C, .ref P, .type "Exception", .type "BaseException", .type "object"] = pure () := by
  rw [refuseLoop_ref, refuseLoop_ref]
  kernel_rfl

theorem osa_exc0 {P : Addr} {ox od' : Obj} {name : Str} {tk : Tok} {v : Value} {pre post : Led} {es : List DictEntry} {n : Nat} {fs : Array Value} (F : Fr h₀ L s.heap m) (N : News h₀ L s.heap (pre ++ (x, ox) :: post)) (X : K.In s.heap)
    (hcl : ox.cls = .ref C) (hd : ox.dict = none) (hf : ox.data = .fields fs) (hp : excCls K C P = true) (ht : takerIn K C name = some none)
    (h1 : ∀ p ∈ pre, p.1 ≠ x) (h2 : ∀ p ∈ post, p.1 ≠ x)
    (e : Obj.putName name (PyData.keyHash w.params name) (.str name s.toks) v emptyDict = od') (e' : od'.data = .dict es.toArray n) (hz : es.length ≤ 1000)
    (h : ∀ D h', (∀ p ∈ pre ++ (x, ox) :: post, p.1 < D) → Fr h₀ L h' m → News h₀ L h' ((D, od') :: (pre ++ (x, { ox with dict := some D }) :: post)) → R (.ok (.ret .none)) { s with heap := h', toks := s.toks + 1 }) :
    codeAny (model prog w) A (.call (.builtin "object.__setattr__") ⟨[.ref x, .str name tk, v], []⟩) R s := by
  obtain ⟨cd, hc, hm, hd', hdel⟩ := excCls_ hp
  have hx := (N (x, ox) (by simp)).1
  obtain ⟨oc, odi, oda, osl⟩ := ox
  dsimp only at hcl hd hf hx
  subst hcl hd hf
  refine osa_exc X (ox := ⟨.ref C, none, .fields fs, osl⟩) (od := none) ⟨hx, rfl, rfl, trivial⟩ hc (by rw [hm]; rfl) (by rw [hm]; rfl) (fun self => by rw [hm]; exact refuse_exc self C P) ht fun b => ?_
  have N₁ : News h₀ L (s.heap.push emptyDict) (((s.heap.objs.size, emptyDict) :: pre) ++ (x, ⟨.ref C, none, .fields fs, osl⟩) :: post) := N.push F emptyDict
  have F₁ := F.push emptyDict
  have hlt : ∀ p ∈ pre ++ (x, (⟨.ref C, none, .fields fs, osl⟩ : Obj)) :: post, p.1 < s.heap.objs.size := fun p hp => Heap.lt_size (N p hp).1
  obtain ⟨F₂, N₂⟩ := news_upd (f := fun o => { o with dict := some s.heap.objs.size }) F₁ N₁ (o' := ⟨.ref C, some s.heap.objs.size, .fields fs, osl⟩) (fun p hp => by
    rcases List.mem_cons.mp hp with rfl | hp
    · exact Nat.ne_of_gt (hlt (x, ⟨.ref C, none, .fields fs, osl⟩) (by simp))
    · exact h1 p hp) h2 rfl rfl
  obtain ⟨F₃, N₃⟩ := news_upd (pre := []) (f := Obj.putName name (PyData.keyHash w.params name) (.str name s.toks) v) F₂ N₂ (fun _ q => nomatch q) (fun p hp => by
    rcases List.mem_append.mp hp with hp | hp
    · exact Nat.ne_of_lt (hlt p (List.mem_append_left _ hp))
    · rcases List.mem_cons.mp hp with rfl | hp
      · exact Nat.ne_of_lt (hlt (x, ⟨.ref C, none, .fields fs, osl⟩) (by simp))
      · exact Nat.ne_of_lt (hlt p (List.mem_append_right _ (List.mem_cons_of_mem _ hp)))) e (by obtain ⟨_, _, dd, _⟩ := od'; cases e'; rfl)
  have hx₁ : (s.heap.push emptyDict).get? x = some (⟨.ref C, none, .fields fs, osl⟩ : Obj) := (N₁ (x, ⟨.ref C, none, .fields fs, osl⟩) (by simp)).1
  have hD₂ := (N₂ (s.heap.objs.size, emptyDict) (by simp)).1
  have hD₃ := (N₃ (s.heap.objs.size, od') (by simp)).1
  refine wpAny_bind (wpAny_pure (wpAny_bind (wpAny_bind (wpAny_loadPart hx (wpAny_bind ((looks_clsIn X hc).here ?_))))))
  rw [hd']
  refine wpAny_bind (wpAny_alloc (wpAny_bind (wpAny_update hx₁ ?_)))
  refine wpAny_pure (a := some s.heap.objs.size) (wpAny_bind (wpAny_pure (wpAny_bind ?_)))
  unfold nsSet
  refine wpAny_bind (wpAny_bind (wpAny_askSetting (wpAny_pure (wpAny_bind (wpAny_mkText (wpAny_bind (wpAny_loadPart hD₂ ?_)))))))
  dsimp only
  have c : (!(#[] : Array DictEntry).any (·.key.isStr name) && (#[] : Array DictEntry).any (·.refKey)) = false := by simp
  rw [aRefKeyMayBeTheName_at, c]
  refine wpAny_updatePart hD₂ ?_
  refine wpAny_bind (wpAny_lookBehind hD₃ (by rw [e']; exact pastItsLine_dict (by rw [List.size_toArray, sizeLine_eq]; omega)) ?_)
  exact wpAny_pure (h _ _ hlt F₃ N₃)

theorem osa_excD {P : Addr} {ox od od' : Obj} {dx : Addr} {name : Str} {tk : Tok} {v : Value} {pre post : Led} {es : List DictEntry} {n : Nat} (F : Fr h₀ L s.heap m) (N : News h₀ L s.heap (pre ++ (dx, od) :: post)) (X : K.In s.heap)
    (I : W.InstAt s.heap x ox C (some od)) (hd : ox.dict = some dx) (hp : excCls K C P = true) (ht : takerIn K C name = some none)
    (hl : (lookIn name od).isSome = true) (h1 : ∀ p ∈ pre, p.1 ≠ dx) (h2 : ∀ p ∈ post, p.1 ≠ dx)
    (e : Obj.putName name (PyData.keyHash w.params name) (.str name s.toks) v od = od') (e' : od'.data = .dict es.toArray n) (hz : es.length ≤ 1000)
    (h : ∀ h', Fr h₀ L h' m → News h₀ L h' (pre ++ (dx, od') :: post) → R (.ok (.ret .none)) { s with heap := h', toks := s.toks + 1 }) :
    codeAny (model prog w) A (.call (.builtin "object.__setattr__") ⟨[.ref x, .str name tk, v], []⟩) R s := by
  obtain ⟨cd, hc, hm, hd', hdel⟩ := excCls_ hp
  refine osa_exc X I hc (by rw [hm]; rfl) (by rw [hm]; rfl) (fun self => by rw [hm]; exact refuse_exc self C P) ht fun b => ?_
  obtain ⟨U1, U2⟩ := news_upd (f := Obj.putName name (PyData.keyHash w.params name) (.str name s.toks) v) F N h1 h2 e (by obtain ⟨_, _, dd, _⟩ := od'; cases e'; rfl)
  have D := (N (dx, od) (by simp)).1
  have D' := (U2 (dx, od') (by simp)).1
  obtain ⟨hx, hcl, hn, -⟩ := I
  obtain ⟨oc, odi, oda, osl⟩ := ox
  dsimp only at hcl hd
  subst hcl hd
  refine wpAny_bind (wpAny_pure (wpAny_bind (wpAny_bind (wpAny_loadPart hx (wpAny_bind ((looks_clsIn X hc).here ?_))))))
  rw [hd']
  refine wpAny_pure (a := some dx) (wpAny_bind (wpAny_pure (wpAny_bind ?_)))
  unfold nsSet
  refine wpAny_bind (wpAny_bind (wpAny_askSetting (wpAny_pure (wpAny_bind (wpAny_mkText (wpAny_bind (wpAny_loadPart D ?_)))))))
  unfold lookIn at hl
  split at hl
  · rename_i es₀ n₀ q
    rw [q]
    dsimp only
    have c : (!es₀.any (·.key.isStr name) && es₀.any (·.refKey)) = false := by
      rw [← Array.any_toList, ← Array.any_toList]
      split at hl
      · rename_i en he
        rw [List.any_eq_true.mpr ⟨en, List.mem_of_find?_eq_some he, List.find?_some he⟩]; rfl
      · split at hl
        · cases hl
        · rename_i z; rw [Bool.not_eq_true] at z; rw [z, Bool.and_false]
    rw [aRefKeyMayBeTheName_at, c]
    refine wpAny_updatePart D ?_
    refine wpAny_bind (wpAny_lookBehind D' (by rw [e']; exact pastItsLine_dict (by rw [List.size_toArray, sizeLine_eq]; omega)) ?_)
    exact wpAny_pure (h _ U1 U2)
  · cases hl

theorem set_exc0 {E : Value → Shared → Prop} {P : Addr} {name : Str} {v : Value} {fs : Array Value} {g : Obj → Led} {Q : Unit → Shared → Prop} (F : Fr h₀ L s.heap m) (X₀ : K.In h₀) (N : News h₀ L s.heap news)
    (hs : findIn K (.ref C) "__setattr__" = some (some (.builtin "object.__setattr__"))) (hp : excCls K C P = true) (ht : takerIn K C name = some none)
    (U : UpdF x (⟨.ref C, none, .fields fs, #[]⟩ : Obj) news g)
    (h : ∀ D h', AllLt D news → Fr h₀ L h' m → News h₀ L h' ((D, dictOf [⟨PyData.keyHash w.params name, .str name (s.toks + 1), v⟩] 1) :: g (⟨.ref C, some D, .fields fs, #[]⟩ : Obj)) → Q () { s with heap := h', toks := s.toks + 2 }) :
    wpAny (model prog w) A (setAttr (.ref x) name v) Q E s := by
  obtain ⟨pre, post, q1, q2, a, b⟩ := U.split
  subst q1
  have hxx := (N (x, ⟨.ref C, none, .fields fs, #[]⟩) (by simp)).1
  refine set_plain (ox := ⟨.ref C, none, .fields fs, #[]⟩) (od := none) (X₀.keeps F.keep) ⟨hxx, rfl, rfl, trivial⟩ hs ?_
  refine osa_exc0 (s := { s with toks := s.toks + 1 }) (od' := dictOf [⟨PyData.keyHash w.params name, .str name (s.toks + 1), v⟩] 1) (es := [⟨PyData.keyHash w.params name, .str name (s.toks + 1), v⟩]) (n := 1) F N (X₀.keeps F.keep) rfl rfl rfl hp ht a b ?_ rfl (by simp) fun D h' hD F' N' => ?_
  · exact (putName_dict name _ _ _ [] 0).trans rfl
  · refine h D h' (allLt_of hD) F' ?_
    rw [q2]
    exact N'

theorem set_excD {E : Value → Shared → Prop} {P : Addr} {ox : Obj} {dx : Addr} {es es' : List DictEntry} {n n' : Nat} {name : Str} {v : Value} {news' : Led} {Q : Unit → Shared → Prop} (F : Fr h₀ L s.heap m) (X₀ : K.In h₀) (N : News h₀ L s.heap news) (I : W.InstAt s.heap x ox C (some (dictOf es n))) (hd : ox.dict = some dx)
    (hs : findIn K (.ref C) "__setattr__" = some (some (.builtin "object.__setattr__"))) (hp : excCls K C P = true) (ht : takerIn K C name = some none) (hl : (getL name es).isSome = true)
    (e : (putL name (PyData.keyHash w.params name) (.str name (s.toks + 1)) v es, putN name es n) = (es', n')) (U : Upd dx (dictOf es n) (dictOf es' n') news news') (hz : es'.length ≤ 1000)
    (h : ∀ h', Fr h₀ L h' m → News h₀ L h' news' → Q () { s with heap := h', toks := s.toks + 2 }) :
    wpAny (model prog w) A (setAttr (.ref x) name v) Q E s := by
  obtain ⟨pre, post, rfl, rfl, a, b⟩ := U.split
  obtain ⟨e1, e2⟩ := Prod.mk.inj e
  exact set_plain (X₀.keeps F.keep) I hs (osa_excD (s := { s with toks := s.toks + 1 }) F N (X₀.keeps F.keep) I hd hp ht hl a b (by rw [putName_dict, e1, e2]) rfl hz fun h' F' N' => h h' F' N')
end

noncomputable abbrev excO (C : Addr) (dd : Option Addr) (t : Addr) : Obj := { cls := .ref C, dict := dd, data := .fields #[.ref t, .none, .none, .none, .bool false, .none] }
section
variable {prog : Program} {w : World} {A : Around} {K : Frag} {C x : Addr} {s : Shared} {h₀ : Heap} {L : Addr} {m : Str → Option Value} {news : Led}

theorem exc_check {M : Model} {E : Value → Shared → Prop} {t : Addr} {dd : Option Addr} {rest : List Value} {Q : Unit → Shared → Prop} (X : K.In s.heap) (hq' : ktsIn K C "Exception" = true) (hx : s.heap.get? x = some (excO C dd t)) (hq : Q () s) :
    wpAny M A (checkBuiltinCall "Exception.__init__" ⟨.ref x :: rest, []⟩) Q E s := by
  have F := PySem.F.excBase_Exception
  obtain ⟨nm, q', N, bs, bm, hdct, sn, sub, ab, col, dd', k0, k1, k2, k3, k5, newId, hC, hbase, hT⟩ := kts_cls X hq'
  have hcB : (Value.ref C :: bm).contains (.type "Exception") = true := by rw [List.contains_cons, hT, Bool.or_true]
  have hshort := F.noStar
  obtain ⟨hh, g', d', t', os'⟩ := s
  simp only [checkBuiltinCall, F.initKind, F.initSplit, F.initRow]
  repeat (first | with_reducible refine wpAny_loadPart_at hx ?_ | with_reducible refine wpAny_loadPart_at hC ?_ | (with_reducible refine wpAny_isSubtype_exc hC ?_; rw [hcB]) | wp_step)
  refine wpAny_onRaise ?_
  rw [show ∀ (a b : String) (n : Nat), Bind.check ⟨.positional, "*", "Exception", .self, [⟨"args", .varPos, false⟩]⟩ a b n (List.map (fun x => x.fst) ({ pos := Value.ref x :: rest } : Args).kw) = pure () from
    fun a b n => check_star_args _ _ _ _ _ _]
  exact wpAny_pure hq

theorem exc_init {E : Value → Shared → Prop} {t : Addr} {dd : Option Addr} {rest : List Value} {g : Obj → Led} {Q : Value → Shared → Prop} (F : Fr h₀ L s.heap m) (X₀ : K.In h₀) (N : News h₀ L s.heap news)
    (hp : ktsIn K C "Exception" = true) (U : UpdF x (excO C dd t) news g)
    (h : ∀ T h', AllLt T news → Fr h₀ L h' m → News h₀ L h' ((T, tupOf rest) :: g (excO C dd T)) → Q .none { s with heap := h' }) (hrest : rest.length ≤ sizeLine := by size_fits) :
    wpAny (model prog w) A (call (.builtin "Exception.__init__") (.ref x :: rest)) Q E s := by
  have FB := PySem.F.excBase_Exception
  obtain ⟨pre, post, q1, q2, a, b⟩ := U.split
  subst q1
  have hx := (N (x, excO C dd t) (by simp)).1
  refine wpAny_call (codeAny_call_builtin FB.init.plain FB.initEntry (exc_check (X₀.keeps F.keep) hp hx ?_))
  have N₁ : News h₀ L (s.heap.push (tupOf rest)) (((s.heap.objs.size, tupOf rest) :: pre) ++ (x, excO C dd t) :: post) := N.push F (tupOf rest)
  have F₁ := F.push (tupOf rest)
  have hlt : ∀ p ∈ pre ++ (x, excO C dd t) :: post, p.1 < s.heap.objs.size := fun p hp => Heap.lt_size (N p hp).1
  obtain ⟨F₂, N₂⟩ := news_upd (f := Obj.mapFields (·.setIfInBounds 0 (.ref s.heap.objs.size))) F₁ N₁ (o' := excO C dd s.heap.objs.size) (fun p hp => by
    rcases List.mem_cons.mp hp with rfl | hp
    · exact Nat.ne_of_gt (hlt (x, excO C dd t) (by simp))
    · exact a p hp) b rfl rfl
  have hx₁ : (s.heap.push (tupOf rest)).get? x = some (excO C dd t) := (N₁ (x, excO C dd t) (by simp)).1
  obtain ⟨hh, g', d', t', os'⟩ := s
  wp_walk
  exact h hh.objs.size _ (allLt_of hlt) F₂ (by rw [q2]; exact N₂)
end

noncomputable abbrev mroE (P : Addr) : List Value := [.ref P, .type "Exception", .type "BaseException", .type "object"]
noncomputable def excMk (K : Frag) (C P : Addr) : Bool := match K.lookup C with
  | some ⟨.type "type", _, .cls cd, sl⟩ => cd.mro == .ref C :: mroE P && !cd.hasDel && (match sl.toList with
    | [_, _, _, _, some (.builtin n), _] => n == "Exception.__new__"
    | _ => false)
  | _ => false
theorem excMk_ {K : Frag} {h : Heap} {C P : Addr} (X : K.In h) (q : excMk K C P = true) : ∃ nm qn N bs hdct sn sub ab col dd k0 k1 k2 k3 k5,
    h.get? C = some (excClassObj nm qn C N bs (mroE P) hdct sn sub ab col dd k0 k1 k2 k3 k5 "Exception.__new__") := by
  unfold excMk at q
  split at q
  · rename_i dd cd sl ho
    simp only [Bool.and_eq_true, beq_iff_eq, Bool.not_eq_true'] at q
    obtain ⟨⟨hm, hdel⟩, hs'⟩ := q
    split at hs'
    · rename_i k0 k1 k2 k3 n k5 hs
      obtain rfl := beq_iff_eq.mp hs'
      obtain ⟨nm, bs, mro, ns, qn, hd, sn, sub, ab, col, del⟩ := cd
      dsimp only at hm hdel
      subst hm hdel
      have hsl : sl = #[k0, k1, k2, k3, some (.builtin "Exception.__new__"), k5] := by
        obtain ⟨l⟩ := sl
        simp only at hs
        rw [hs]
      subst hsl
      exact ⟨nm, qn, ns, bs, hd, sn, sub, ab, col, dd, k0, k1, k2, k3, k5, X _ _ ho⟩
    · cases hs'
  · cases q

section
variable {prog : Program} {w : World} {A : Around} {E : Value → Shared → Prop} {h : Heap} {g : Array GenState} {d : Drawn} {t : Nat} {os : OsState}
variable {nm q : Str} {C N P : Addr} {bs : List Value} {hdct : Bool} {sn : List Str} {sub : List Value} {ab : Bool} {col : Option Bool} {dd : Option Addr} {k0 k1 k2 k3 k5 : Option Value} {R : Result → Shared → Prop}

theorem mk_check {M : Model} {rest : List Value} {Q : Unit → Shared → Prop} (hC : h.get? C = some (excClassObj nm q C N bs (mroE P) hdct sn sub ab col dd k0 k1 k2 k3 k5 "Exception.__new__"))
    (hq : Q () ⟨h, g, d, t, os⟩) : wpAny M A (checkBuiltinCall "Exception.__new__" ⟨.ref C :: rest, []⟩) Q E ⟨h, g, d, t, os⟩ := by
  have F := PySem.F.excBase_Exception
  have hcont : (Value.ref C :: mroE P).contains (.type "Exception") = true := by simp
  have hstar := F.noStar
  simp only [checkBuiltinCall, F.newKind, F.newSplit, F.newRow]
  repeat (first | refine wpAny_loadPart_at hC ?_ | (refine wpAny_isSubtype_exc hC ?_; rw [hcont]) | refine wpAny_staticBase_exc hC ?_ | refine wpAny_madeBy_exc hC ?_ | simp only [bne_self_eq_false, Bool.false_eq_true, if_false] | wp_step)
  exact hq

theorem mk_new {rest : List Value} (hC : h.get? C = some (excClassObj nm q C N bs (mroE P) hdct sn sub ab col dd k0 k1 k2 k3 k5 "Exception.__new__"))
    (hq : R (.ok (.ret (.ref (h.objs.size + 1)))) ⟨(h.push (tupOf rest)).push (excO C none h.objs.size), g, d, t, os⟩) (hrest : rest.length ≤ sizeLine) :
    codeAny (model prog w) A (.builtin "Exception.__new__" ⟨.ref C :: rest, []⟩) R ⟨h, g, d, t, os⟩ := by
  have F := PySem.F.excBase_Exception
  have hends := F.ends
  have hcB : (Value.ref C :: mroE P).contains (.type "Exception") = true := by simp
  have hcA : (Value.ref C :: mroE P).contains (.type "AttributeError") = false := by simp
  have hcN : (Value.ref C :: mroE P).contains (.type "NameError") = false := by simp
  refine codeAny_builtinAt F.entry ?_
  unfold Builtin.«BaseException.__new__»
  refine PySem.wpAt_bind ?_
  show PySem.wpAt _ _ _ (stack >>= _) _ _ _
  refine PySem.wpAt_bind (PySem.wpAt_stack fun p below => PySem.wpAt_of_wpAny ?_)
  wp_walk
  refine PySem.wpAt_of_wpAny ?_
  rw [F.owner]
  repeat (first | with_reducible refine wpAny_madeHere_exc F.canon hC ?_ | with_reducible refine wpAny_loadPart_at hC ?_ | (with_reducible refine wpAny_isSubtype_exc hC ?_; first | rw [hcB] | rw [hcA] | rw [hcN]) | wp_step)
  show R _ _
  rw [Heap.size_push]
  exact hq

theorem mk_tcall {K : Frag} {rest : List Value} {fI : Addr} {Q : Fin → Shared → Prop} (X : K.In h) (hi : findIn K (.ref C) "__init__" = some (some (.ref fI))) (hf : typeIn K (.ref fI) = some (.type "function"))
    (hC : h.get? C = some (excClassObj nm q C N bs (mroE P) hdct sn sub ab col dd k0 k1 k2 k3 k5 "Exception.__new__"))
    (hq : wpAny (model prog w) A (call (.ref fI) (.ref (h.objs.size + 1) :: rest)) (fun r s' => r = .none ∧ Q (.done (.ret (.ref (h.objs.size + 1)))) s') E ⟨(h.push (tupOf rest)).push (excO C none h.objs.size), g, d, t, os⟩) (hrest : rest.length ≤ sizeLine) :
    wpAny (model prog w) A (Builtin.«type.__call__» ⟨.ref C :: rest, []⟩) Q E ⟨h, g, d, t, os⟩ := by
  have F := PySem.F.excBase_Exception
  repeat (first | with_reducible refine wpAny_loadPart_at hC ?_ | with_reducible refine wpAny_madeBy_exc hC ?_ | wp_step)
  refine codeAny_call_builtin_code (Code.quiet_builtin _ F.quiet) (mk_check hC ?_)
  refine mk_new hC ?_ hrest
  show wpAny _ _ _ _ _ _
  have hC₁ := Heap.get?_push_of_some (excO C none h.objs.size) (Heap.get?_push_of_some (tupOf rest) hC)
  have X₁ : K.In ((h.push (tupOf rest)).push (excO C none h.objs.size)) := X.keeps fun b o e => Heap.get?_push_of_some _ (Heap.get?_push_of_some _ e)
  have hget : ((h.push (tupOf rest)).push (excO C none h.objs.size)).get? (h.objs.size + 1) = some (excO C none h.objs.size) := by heap_get
  have hcC : (Value.ref C :: mroE P).contains (.ref C) = true := by simp
  unfold isInstance
  repeat (first | with_reducible refine wpAny_loadPart_at hget ?_ | (with_reducible refine wpAny_isSubtype_exc hC₁ ?_; rw [hcC]) | wp_step)
  show wpAny _ _ (typeLookup (.ref C) _) _ _ _
  refine (looks_findIn X₁ hi).here ?_
  refine wpAny_holding (wpAny_bind ((bind_fn X₁ _ hf).here ?_))
  refine wpAny_bind (wpAny_mono hq (fun r s' hr => ?_) fun _ _ x => x)
  obtain ⟨rfl, hQ⟩ := hr
  wp_walk
  exact hQ
end

section
variable {prog : Program} {w : World} {A : Around} {K : Frag} {C P x : Addr} {s : Shared} {h₀ : Heap} {L : Addr} {m : Str → Option Value} {news : Led}

theorem exc_callC {rest : List Value} {fI : Addr} {R : Result → Shared → Prop} (F : Fr h₀ L s.heap m) (X₀ : K.In h₀) (N : News h₀ L s.heap news)
    (hk : excMk K C P = true) (hi : findIn K (.ref C) "__init__" = some (some (.ref fI))) (hf : typeIn K (.ref fI) = some (.type "function")) (hrest : rest.length ≤ sizeLine)
    (h : ∀ x T h', AllLt T news → AllLt x ((T, tupOf rest) :: news) → Fr h₀ L h' m → News h₀ L h' ((x, excO C none T) :: (T, tupOf rest) :: news) →
      wpAny (model prog w) (A.under (.builtin "type.__call__" ⟨.ref C :: rest, []⟩)) (call (.ref fI) (.ref x :: rest)) (fun r s' => r = .none ∧ R (.ok (.ret (.ref x))) s') (fun e s' => R (.error e) s') { s with heap := h' }) :
    codeAny (model prog w) A (.call (.ref C) ⟨rest, []⟩) R s := by
  have X := X₀.keeps F.keep
  obtain ⟨nm, qn, N', bs, hdct, sn, sub, ab, col, dd, k0, k1, k2, k3, k5, hC⟩ := excMk_ X hk
  obtain ⟨hh, g, d, t, os⟩ := s
  have f1 := tc_lookup
  have f2 := tc_bind (.ref C)
  have hT : (⟨hh, g, d, t, os⟩ : Shared).TypeIs (.ref C) "type" := ⟨_, hC, rfl⟩
  refine codeAny_of_tree ?_
  show wpAny _ _ (callAny (.ref C) _) _ _ _
  repeat (any_goals (first | assumption | with_reducible refine wpAny_loadPart_at hC ?_ | wp_step))
  refine ⟨rfl, ?_⟩
  refine codeAny_call_builtin_at (Code.quiet_builtin _ (by decide +kernel)) entry_typeCall (wpAny_check_type_call_sub hC (mk_tcall X hi hf hC ?_ hrest))
  have N₁ := (N.push F (tupOf rest)).push (F.push _) (excO C none hh.objs.size)
  rw [Heap.size_push] at N₁
  exact h (hh.objs.size + 1) hh.objs.size _ (allLt_of fun p hp => Heap.lt_size (N p hp).1) ⟨Nat.lt_succ_self _, allLt_of fun p hp => Nat.lt_succ_of_lt (Heap.lt_size (N p hp).1)⟩ ((F.push _).push _) N₁

noncomputable def RaisesX (h₀ : Heap) (C : Addr) (E : Value → Shared → Prop) (v : Value) (s₁ : Shared) : Prop := ∃ e dd t, v = .ref e ∧ (∀ b o, h₀.get? b = some o → s₁.heap.get? b = some o) ∧ s₁.heap.get? e = some (excO C dd t) ∧ E (.ref e) s₁
theorem raise_made {E : Value → Shared → Prop} {env : Env} {x : Sem Value} {Q : Flow → Shared → Prop} {M : Model} (hh : A.handled = none) (X₀ : K.In h₀) (hk : excMk K C P = true)
    (h : wpAny M A x (RaisesX h₀ C E) E s) :
    wpAny M A (raiseStmt env (some x) none) Q E s := by
  have hcB : (Value.ref C :: mroE P).contains (.type "BaseException") = true := by simp
  unfold raiseStmt
  refine wpAny_bind (wpAny_mono h (fun v s₁ h₁ => ?_) fun _ _ x => x)
  obtain ⟨e, dd, t, rfl, k, he, hE⟩ := h₁
  obtain ⟨nm, qn, N', bs, hdct, sn, sub, ab, col, dd', k0, k1, k2, k3, k5, hC⟩ := excMk_ (X₀.keeps k) hk
  obtain ⟨hp, g, d, tk, os⟩ := s₁
  repeat (first | with_reducible refine wpAny_loadPart_at he ?_ | with_reducible refine wpAny_loadPart_at hC ?_ | (with_reducible refine wpAny_isSubtype_exc hC ?_; rw [hcB]) | wp_step)
  exact wpAny_raiseNew_none hh hE

theorem raise_stmt {E : Value → Shared → Prop} {env : Env} {e : Expr} {pos : Pos} {Q : Flow → Shared → Prop} (hh : A.handled = none) (X₀ : K.In h₀) (hk : excMk K C P = true)
    (h : wpAny (model prog w) A (eval e env) (RaisesX h₀ C E) E s) :
    wpAny (model prog w) A (exec (.Raise (some e) none pos) env) Q E s := by
  rw [arm_exec_Raise]
  simp only [evalOpt, Option.map]
  refine wpAny_bind (wpAny_standAt (raise_made hh X₀ hk ?_))
  exact wpAny_bind (wpAny_mono h (fun v s₃ h₃ => wpAny_bind (wpAny_standAt (wpAny_pure h₃))) fun _ _ x => x)
end
end
section
theorem mem_frames {env : Env} {L b : Addr} {outer : List Env} (hf : env.frame = some L) (hm : b ∈ (env :: outer).filterMap (·.frame)) : b = L ∨ b ∈ outer.filterMap (·.frame) := by
  obtain ⟨e, he, hb⟩ := List.mem_filterMap.mp hm
  rcases List.mem_cons.mp he with rfl | he
  · rw [hf] at hb
    exact .inl (Option.some.inj hb).symm
  · exact .inr (List.mem_filterMap.mpr ⟨e, he, hb⟩)
/-- e, of the class C, with the dict D, has a traceback whose mark is fl -/
noncomputable def TrD (base : Heap) (e C D : Addr) (fl : Value) (h : Heap) : Prop :=
  ∃ oe vs T oT ts, h.get? e = some oe ∧ (oe.cls = .ref C ∧ oe.dict = some D) ∧ oe.data = .fields vs ∧ vs[1]? = some (.ref T) ∧ base.get? T = none ∧ T ≠ e ∧ h.get? T = some oT ∧ oT.data = .fields ts ∧ ts[3]? = some fl
noncomputable def FlyD (base : Heap) (l : List Env) (e C D : Addr) (fl : Value) (h : Heap) : Prop := base.StaysIn h ∧ base.get? e = none ∧ h.FunFrames base l ∧ TrD base e C D fl h
theorem FlyD.there {base h : Heap} {l : List Env} {e C D : Addr} {fl : Value} (x : FlyD base l e C D fl h) : ∃ ob, h.get? e = some ob ∧ ob.cls = .ref C ∧ ob.dict = some D ∧ ∃ vs, ob.data = .fields vs := by
  obtain ⟨_, _, _, oe, vs, _, _, _, he, hc, hd, _⟩ := x
  exact ⟨oe, he, hc.1, hc.2, vs, hd⟩
theorem map_dict {o : Obj} {f : Array Value → Array Value} : (Obj.mapFields f o).dict = o.dict := by
  unfold Obj.mapFields
  split <;> rfl
section
variable {M : Model} {A : Around} {E : Value → Shared → Prop} {s : Shared} {base : Heap} {env : Env} {outer l : List Env} {L e C D : Addr} {oe : Obj} {vs : Array Value} {Q : Unit → Shared → Prop}
theorem not_rec {h : Heap} {b T : Addr} {o oT : Obj} {ts : Array Value} (hT : h.get? T = some oT) (hd : oT.data = .fields ts) (hb : h.get? b = some o) (hn : ∀ vs, o.data ≠ .fields vs) : b ≠ T := fun q => by
  rw [q, hT] at hb
  cases hb
  exact hn _ hd
/-- a new entry of the traceback -/
theorem entryD {head : Value} {hadNext : Bool} (hfr : A.frames = some (env :: outer)) (hl : s.heap.FunFrames base (env :: outer)) (hf : env.frame = some L) (he : s.heap.get? e = some oe) (hkb : base.StaysIn s.heap) (hen : base.get? e = none)
    (hc : oe.cls = .ref C ∧ oe.dict = some D) (hd : oe.data = .fields vs) (hsz : 1 < vs.size)
    (h : ∀ h', FlyD base (env :: outer) e C D (rawInt L) h' → s.heap.UpToSlots h' → Q () { s with heap := h' }) :
    wpAny M A (do let a ← frameOf env; let pl ← entryPlaceOf L hadNext; let b ← EntryCells.newEntry head a .none (rawInt L) .none pl; setField (.ref e) 1 b) Q E s := by
  have hene : e ∉ (env :: outer).filterMap (·.frame) := fun hm => by
    obtain ⟨_, o, ho, hnf⟩ := hl.mem hm
    rw [he] at ho
    cases ho
    exact hnf vs hd
  refine wpAny_bind (wpAny_frameOf_fun hfr hl hf fun h₁ hs₁ => ?_)
  refine wpAny_bind (wpAny_entryPlaceOf fun pl hpl => ?_)
  unfold EntryCells.newEntry newFields
  refine wpAny_bind (wpAny_newObj_type ?_ (hpl.sizeOk5 _ _ _ _ _))
  have he₁ : h₁.get? e = some oe := (hs₁.2.1 e hene).trans he
  have kb₁ : base.StaysIn h₁ := fun b o hbo => (hs₁.2.1 b fun hm => by rw [(hl.mem hm).1] at hbo; cases hbo).trans (hkb b o hbo)
  generalize hTo : (⟨.type "traceback", none, .fields ([head, .ref L, .none, rawInt L, .none] ++ (if pl.isEmpty then List.replicate 6 Value.none else pl)).toArray, #[]⟩ : Obj) = oT
  have he₂ := Heap.get?_push_of_some oT he₁
  refine wpAny_setField he₂ hd hsz (h _ ?_ ?_)
  · have hTe : h₁.objs.size ≠ e := Nat.ne_of_gt (Heap.lt_size he₁)
    have hd₃ := Obj.data_mapFields hd (·.setIfInBounds 1 (Value.ref h₁.objs.size))
    refine ⟨fun b o hbo => ?_, hen, hl.of_keeps fun b o hb hnf => ?_, ?_⟩
    · rw [Heap.get?_update_other _ _ (fun q => by rw [← q, hen] at hbo; cases hbo)]
      exact Heap.get?_push_of_some _ (kb₁ b o hbo)
    · obtain ⟨sl, hs⟩ := hs₁.2.2 b o hb
      exact ⟨_, (Heap.get?_update_other _ _ (Ne.symm (not_rec he hd hb hnf))).trans (Heap.get?_push_of_some _ hs), rfl⟩
    · refine ⟨_, _, h₁.objs.size, oT, _, Heap.get?_update_self _ he₂ (Obj.isFreed_of_fields hd₃), ⟨by rw [Obj.cls_mapFields]; exact hc.1, by rw [map_dict]; exact hc.2⟩, hd₃, by simp [hsz], kb₁.fresh, hTe, (Heap.get?_update_other _ _ (Ne.symm hTe)).trans (Heap.get?_push_size h₁ (by subst hTo; rfl)), by rw [← hTo], by first | (simp; done) | (rcases hpl with rfl | ⟨_, _, _, _, _, _, _, rfl⟩ <;> simp)⟩
  · intro b o hb hnf
    obtain ⟨sl, hs⟩ := hs₁.2.2 b o hb
    exact ⟨sl, (Heap.get?_update_other _ _ (Ne.symm (not_rec he hd hb hnf))).trans (Heap.get?_push_of_some _ hs)⟩
/-- the mark of the traceback's head -/
theorem markD {fl v : Value} (x : FlyD base l e C D fl s.heap) (h : ∀ h', FlyD base l e C D v h' → s.heap.UpToSlots h' → Q () { s with heap := h' }) :
    wpAny M A (do let tb ← field (.ref e) 1; if tb != .none then setField tb 3 v else pure ()) Q E s := by
  obtain ⟨f1, f2, f3, oe, vs, T, oT, ts, he, hc, hd, h1, hnT, hTe, hT, hdT, h3⟩ := x
  refine wpAny_bind (wpAny_field he hd h1 ?_)
  rw [if_pos (show (Value.ref T != Value.none) = true from by simp)]
  have hsz : 3 < ts.size := (Array.getElem?_eq_some_iff.mp h3).1
  refine wpAny_setField hT hdT hsz (h _ ?_ ?_)
  · refine ⟨fun b o hbo => ?_, f2, f3.of_keeps fun b o hb hnf => ⟨o, (Heap.get?_update_other _ _ (Ne.symm (not_rec hT hdT hb hnf))).trans hb, rfl⟩, oe, vs, T, _, _, (Heap.get?_update_other _ _ hTe).trans he, hc, hd, h1, hnT, hTe, Heap.get?_update_self _ hT (Obj.isFreed_of_fields (Obj.data_mapFields hdT _)), Obj.data_mapFields hdT _, by simp [hsz]⟩
    rw [Heap.get?_update_other _ _ (fun q => by rw [← q, hnT] at hbo; cases hbo)]
    exact f1 b o hbo
  · exact fun b o hb hnf => ⟨o.slots, (Heap.get?_update_other _ _ (Ne.symm (not_rec hT hdT hb hnf))).trans hb⟩
theorem landD {fl : Value} (x : FlyD base l e C D fl s.heap) (h : ∀ h', FlyD base l e C D .none h' → s.heap.UpToSlots h' → Q () { s with heap := h' }) : wpAny M A (setFlight (.ref e) none) Q E s := by
  unfold setFlight
  exact markD x h
theorem lookD (hfr : A.frames = some (env :: outer)) (hf : env.frame = some L) (x : FlyD base (env :: outer) e C D .none s.heap) (h : ∀ h', FlyD base (env :: outer) e C D (rawInt L) h' → s.heap.UpToSlots h' → Q () { s with heap := h' }) : wpAny M A (noteFrame (.ref e) env) Q E s := by
  obtain ⟨f1, f2, f3, oe, vs, T, oT, ts, he, hc, hd, h1, hnT, hTe, hT, hdT, h3⟩ := x
  unfold noteFrame
  simp only [hf]
  refine wpAny_bind (wpAny_field he hd h1 ?_)
  rw [if_pos (show (Value.ref T != Value.none) = true from by simp)]
  refine wpAny_bind (wpAny_field hT hdT h3 ?_)
  rw [if_neg (show ¬ ((Value.none == rawInt L) = true) from by simp [rawInt])]
  refine wpAny_bind (wpAny_setField hT hdT (Array.getElem?_eq_some_iff.mp h3).1 ?_)
  have other : ∀ b o, s.heap.get? b = some o → (∀ vs, o.data ≠ .fields vs) → (s.heap.update T (Obj.mapFields (·.setIfInBounds 3 Value.none))).get? b = some o := fun b o hb hnf => (Heap.get?_update_other _ _ (Ne.symm (not_rec hT hdT hb hnf))).trans hb
  refine entryD hfr (f3.of_keeps fun b o hb hnf => ⟨o, other b o hb hnf, rfl⟩) hf ((Heap.get?_update_other _ _ hTe).trans he)
    (fun b o hbo => (Heap.get?_update_other _ _ (fun q => by rw [← q, hnT] at hbo; cases hbo)).trans (f1 b o hbo)) f2 hc hd (Array.getElem?_eq_some_iff.mp h1).1
    fun h' x1 x2 => h h' x1 fun b o hb hnf => x2 b o (other b o hb hnf) hnf
theorem leaveD1 (hfr : A.frames = some (env :: outer)) (hl : s.heap.FunFrames base (env :: outer)) (hf : env.frame = some L) (he : s.heap.get? e = some oe) (hkb : base.StaysIn s.heap) (hen : base.get? e = none)
    (hc : oe.cls = .ref C ∧ oe.dict = some D) (hd : oe.data = .fields vs) (h1 : vs[1]? = some .none)
    (h : ∀ h', FlyD base outer e C D .none h' → s.heap.UpToSlots h' → Q () { s with heap := h' }) : wpAny M A (leaving env (.ref e)) Q E s := by
  unfold leaving noteFrame
  simp only [hf]
  refine wpAny_bind (wpAny_bind (wpAny_field he hd h1 ?_))
  rw [if_neg (by decide)]
  refine entryD hfr hl hf he hkb hen hc hd (Array.getElem?_eq_some_iff.mp h1).1 fun h' x u => landD x fun h'' x' u' => ?_
  obtain ⟨k1, k2, ⟨_, _, k3⟩, k4⟩ := x'
  exact h h'' ⟨k1, k2, k3, k4⟩ (u.trans u')
theorem leaveD (hfr : A.frames = some (env :: outer)) (hf : env.frame = some L) (x : FlyD base (env :: outer) e C D .none s.heap) (h : ∀ h', FlyD base outer e C D .none h' → s.heap.UpToSlots h' → Q () { s with heap := h' }) : wpAny M A (leaving env (.ref e)) Q E s := by
  unfold leaving
  refine wpAny_bind (lookD hfr hf x fun h' x1 u => landD x1 fun h'' x' u' => ?_)
  obtain ⟨k1, k2, ⟨_, _, k3⟩, k4⟩ := x'
  exact h h'' ⟨k1, k2, k3, k4⟩ (u.trans u')
end
/-- on its way out of the frames l: what it carries -/
noncomputable def RaisedD (base G : Heap) (l : List Env) (e C D : Addr) (news : Led) (h : Heap) : Prop :=
  ∃ B, base.StaysIn B ∧ (∀ b o, G.get? b = some o → b ∉ l.filterMap (·.frame) → B.get? b = some o) ∧ (∀ q ∈ news, B.get? q.1 = some q.2 ∧ G.get? q.1 = none ∧ base.get? q.1 = none) ∧ FlyD B l e C D .none h
noncomputable def Flew (base h₀ : Heap) (L : Addr) (m : Str → Option Value) (envs : List Env) (e C D : Addr) (news : Led) (h : Heap) : Prop :=
  ∃ g, Fr h₀ L g m ∧ RaisedD base g envs e C D news h ∧ g.UpToSlots h
theorem Flew.drop {base h₀ : Heap} {L : Addr} {m : Str → Option Value} {envs : List Env} {e C D : Addr} {news news' : Led} {h : Heap} (fl : Flew base h₀ L m envs e C D news h) (hs : ∀ q ∈ news', q ∈ news) : Flew base h₀ L m envs e C D news' h := by
  obtain ⟨g, F, ⟨B, b1, b2, b3, b4⟩, U⟩ := fl
  exact ⟨g, F, ⟨B, b1, b2, fun q hq => b3 q (hs q hq), b4⟩, U⟩
section
variable {M : Model} {A : Around} {E : Value → Shared → Prop} {s' : Shared} {base g g₂ h : Heap} {outer : List Env} {L a e C D t : Addr} {m : Str → Option Value} {name : Str} {scope : Scope} {cd : Value} {cl : List (Str × Addr)} {Q : Unit → Shared → Prop} {news : Led}
theorem pushX (K : Below A base outer g) (F : Fr g L h m) (hk : scope.kind = .function) : Below (A.deeper (envX name scope L a cd cl)) base (envX name scope L a cd cl :: outer) h := by
  have hnew : base.get? L = none := by
    cases hq : base.get? L with
    | none => rfl
    | some o => exact absurd (Nat.lt_of_lt_of_le (Heap.lt_size (K.stays L o hq)) F.above) (Nat.lt_irrefl _)
  refine ⟨Around.frames_deeper K.stack, fun b o e => F.keep b o (K.stays b o e), ?_⟩
  exact .cons (by show scope.kind ≠ .module; rw [hk]; decide) rfl F.ns hnew (K.frames.of_keeps fun b o e _ => ⟨o, F.keep b o e, rfl⟩)
/-- what has been raised in this frame leaves it -/
theorem leave_first (K : Below A base outer g) (F : Fr g L s'.heap m) (N : News g L s'.heap ((e, excO C (some D) t) :: news)) (hne : ∀ p ∈ news, p.1 ≠ e) (hk : scope.kind = .function)
    (hQ : ∀ h', RaisedD base g outer e C D news h' → g.UpToSlots h' → Q () { s' with heap := h' }) :
    wpAny M (A.deeper (envX name scope L a cd cl)) (leaving (envX name scope L a cd cl) (.ref e)) Q E s' := by
  have K' := pushX (name := name) (a := a) (cd := cd) (cl := cl) K F hk
  let fs := e :: (envX name scope L a cd cl :: outer).filterMap (·.frame)
  have hin : ∀ env ∈ (envX name scope L a cd cl :: outer), ∀ b, env.frame = some b → b ∈ fs := fun env he b hb => List.mem_cons_of_mem _ (List.mem_filterMap.mpr ⟨env, he, hb⟩)
  have He := N (e, excO C (some D) t) (.head _)
  have eb : base.get? e = none := fresh_of_stays K.stays He.2.2
  have st : base.StaysIn (hideAll s'.heap fs) := fun b o q => hideAll_get _ (K'.stays b o q) fun hm => by
    rcases List.mem_cons.mp hm with rfl | hm
    · rw [eb] at q; cases q
    · rw [(K'.frames.mem hm).1] at q; cases q
  have sg : ∀ b o, g.get? b = some o → b ∉ outer.filterMap (·.frame) → (hideAll s'.heap fs).get? b = some o := fun b o q nm => hideAll_get _ (F.keep b o q) fun hm => by
    rcases List.mem_cons.mp hm with rfl | hm
    · rw [He.2.2] at q; cases q
    · rcases mem_frames rfl hm with z | z
      · rw [z, kts_self F] at q
        cases q
      · exact nm z
  have hl : ∀ q ∈ news, (hideAll s'.heap fs).get? q.1 = some q.2 ∧ g.get? q.1 = none ∧ base.get? q.1 = none := fun q hq => by
    have Nq := N q (List.mem_cons_of_mem _ hq)
    refine ⟨hideAll_get _ Nq.1 fun hm => ?_, Nq.2.2, fresh_of_stays K.stays Nq.2.2⟩
    rcases List.mem_cons.mp hm with z | hm
    · exact hne q hq z
    · rcases mem_frames rfl hm with z | z
      · exact Nq.2.1 z
      · obtain ⟨o, ho, _⟩ := (K.frames.mem z).2
        rw [Nq.2.2] at ho; cases ho
  refine leaveD1 (base := hideAll s'.heap fs) K'.stack (funFrames_hide K'.frames hin) rfl He.1 (fun b o hb => of_hideAll _ hb) (hideAll_none _ (.head _)) ⟨rfl, rfl⟩ rfl rfl fun h' x u => ?_
  exact hQ h' ⟨_, st, sg, hl, x⟩ ((Heap.UpToSlots.of_keeps F.keep).trans u)
/-- the flight passes the frame of the def that called -/
theorem leave_next (K : Below A base outer g) (F : Fr g L g₂ m) (R : RaisedD base g₂ (envX name scope L a cd cl :: outer) e C D news s'.heap) (hsm : g₂.UpToSlots s'.heap)
    (hQ : ∀ h', RaisedD base g outer e C D news h' → g.UpToSlots h' → Q () { s' with heap := h' }) :
    wpAny M (A.deeper (envX name scope L a cd cl)) (leaving (envX name scope L a cd cl) (.ref e)) Q E s' := by
  obtain ⟨B, hB, hBG, hl, hfl⟩ := R
  exact leaveD (Around.frames_deeper K.stack) rfl hfl fun h' x u =>
    hQ h' ⟨B, hB, fun b o q nm => hBG b o (F.keep b o q) (fun hm => by
      rcases mem_frames rfl hm with z | z
      · rw [z, kts_self F] at q
        cases q
      · exact nm z), fun q hq => ⟨(hl q hq).1, kts_none F.keep (hl q hq).2.1, (hl q hq).2.2⟩, x⟩ ((Heap.UpToSlots.of_keeps F.keep).trans (hsm.trans u))
end
/-- a contract of a def that raises an own exception; kp: what the flight carries -/
noncomputable def CtX (w : World) (f : Addr) (vs : List Value) (d u : Nat) (news : Led) (C : Addr) {ι : Type} (kp : ι → Addr → Addr → Led) : Prop :=
  ∀ (dp un : Nat) (gd : Option (List Code)) (cn : Str) (cs : Scope) (a : Addr) (ccd : Value) (cl : List (Str × Addr)) (outer : List Env) (A₀ : Around) (base h₀ : Heap) (L : Addr) (m : Str → Option Value) (s : Shared) (R : Result → Shared → Prop)
    (p : Program) (loose : List Str) (mean : ExcName → Option Value) (mg mb : Str → Option Value),
    Below A₀ base outer h₀ → Fr h₀ L s.heap m → (Mine.K w.params).In h₀ → News h₀ L s.heap news → Top p loose mean mg mb h₀ → cs.kind = .function → dp + d < recursionLimit → un + u < cLine →
    (∀ i e D h' tk', Flew base h₀ L m (envX cn cs L a ccd cl :: outer) e C D (kp i e D) h' → R (.error (.ref e)) { s with heap := h', toks := tk' }) →
    codeAny (model PySem.Challenge.rw_qd0072_01.row.prog w) (ktrTop dp un gd cn cs L a ccd cl outer) (.call (.ref f) ⟨vs, []⟩) R s
/-- what a body's raise must come to -/
structure OutX (base g : Heap) (L : Addr) (envs : List Env) (o : Shared) (C : Addr) {ι : Type} (kp : ι → Addr → Addr → Led) (E : Value → Shared → Prop) : Prop where
  here : ∀ i e D t h' tk' m' led, Fr g L h' m' → News g L h' led → (e, excO C (some D) t) ∈ led → (∀ q ∈ kp i e D, q ∈ led ∧ q.1 ≠ e) → E (.ref e) (SH o h' tk')
  on : ∀ i e D h' tk' m', Flew base g L m' envs e C D (kp i e D) h' → E (.ref e) (SH o h' tk')
theorem OutX.mk' {prog : Program} {w : World} {A : Around} {base g h₀ : Heap} {outer : List Env} {L L₀ a : Addr} {m₀ : Str → Option Value} {name : Str} {scope : Scope} {cd : Value} {cl : List (Str × Addr)} {o : Shared} {C : Addr} {ι : Type} {kp : ι → Addr → Addr → Led} {R : Result → Shared → Prop}
    (K : Below A base outer g) (FG : Fr h₀ L₀ g m₀) (hk : scope.kind = .function)
    (h : ∀ i e D h' tk', Flew base h₀ L₀ m₀ outer e C D (kp i e D) h' → R (.error (.ref e)) (SH o h' tk')) :
    OutX base g L (envX name scope L a cd cl :: outer) o C kp (fun e s' => wpAny (model prog w) (A.deeper (envX name scope L a cd cl)) (leaving (envX name scope L a cd cl) e) (fun _ s'' => R (.error e) s'') (fun e' s'' => R (.error e') s'') s') where
  here i e D t h' tk' m' led F N he hs := leave_first K F (s' := SH o h' tk') (news := kp i e D) (fun p hp => (List.mem_cons.mp hp).elim (fun e => e ▸ N _ he) (fun q => N p (hs p q).1)) (fun p hp => (hs p hp).2) hk fun h'' R' U => h i e D h'' tk' ⟨_, FG, R', U⟩
  on i e D h' tk' m' fl := by
    obtain ⟨g₂, F₂, R', U⟩ := fl
    exact leave_next K F₂ (s' := SH o h' tk') R' U fun h'' R'' U' => h i e D h'' tk' ⟨g, FG, R'', U'⟩
end
section
/-- a contract of a def that comes back as Post says, or raises an own exception; kp: what the flight carries -/
noncomputable def CtB (w : World) (f : Addr) (vs : List Value) (d u : Nat) (news : Led) (Post : Value → Led → Prop) (C : Addr) {ι : Type} (kp : ι → Addr → Addr → Led) : Prop :=
  ∀ (dp un : Nat) (gd : Option (List Code)) (cn : Str) (cs : Scope) (a : Addr) (ccd : Value) (cl : List (Str × Addr)) (outer : List Env) (A₀ : Around) (base h₀ : Heap) (L : Addr) (m : Str → Option Value) (s : Shared) (R : Result → Shared → Prop)
    (p : Program) (loose : List Str) (mean : ExcName → Option Value) (mg mb : Str → Option Value),
    Below A₀ base outer h₀ → Fr h₀ L s.heap m → (Mine.K w.params).In h₀ → News h₀ L s.heap news → Top p loose mean mg mb h₀ → cs.kind = .function → dp + d < recursionLimit → un + u < cLine →
    (∀ r news' h' tk', Post r news' → Fr h₀ L h' m → News h₀ L h' news' → R (.ok (.ret r)) { s with heap := h', toks := tk' }) →
    (∀ i e D h' tk', Flew base h₀ L m (envX cn cs L a ccd cl :: outer) e C D (kp i e D) h' → R (.error (.ref e)) { s with heap := h', toks := tk' }) →
    codeAny (model PySem.Challenge.rw_qd0072_01.row.prog w) (ktrTop dp un gd cn cs L a ccd cl outer) (.call (.ref f) ⟨vs, []⟩) R s
section
variable {w : World} {f : Addr} {vs : List Value} {d u : Nat} {news : Led} {Post : Value → Led → Prop} {C : Addr} {ι : Type} {kp : ι → Addr → Addr → Led} {name qual : Str} {params : Arguments} {body : List Stmt} {scope : Scope} {dV kV doc pm cdv ct oc : Value} {an od : Option Addr} {osl : Array (Option Value)}
theorem CtB.of (binds : List (Str × Value))
    (ho : (Mine.K w.params).lookup f = some ⟨oc, od, .func (fnOf name qual params body scope dV kV doc pm an cdv ct), osl⟩) (hcd : codeIn (Mine.K w.params) cdv qual = true)
    (hb : ∀ s : Shared, (Mine.K w.params).In s.heap → BindsTo s (fnOf name qual params body scope dV kV doc pm an cdv ct) ⟨vs, []⟩ binds) (hl : ∀ y ∈ binds, scope.names.lookup y.1 = some .local)
    (hco : scope.isCoroutine = false) (hgen : scope.isGenerator = false) (hk : scope.kind = .function) (hcell : (scope.names.all fun x => x.2 != .cell) = true)
    (H : ∀ (dp un : Nat) (gd : Option (List Code)) (outer : List Env) (A₀ : Around) (base g : Heap) (L : Addr) (h : Heap) (o : Shared) (k : Nat) (p : Program) (loose : List Str) (mean : ExcName → Option Value) (mg mb : Str → Option Value) (E : Value → Shared → Prop),
      Below A₀ base outer g → Fr g L h (fun y => List.lookup y binds.reverse) → (Mine.K w.params).In g → News g L h news → Top p loose mean mg mb g → dp + d ≤ recursionLimit → un + u < cLine + 3 → FnEnv (envX qual scope L f cdv []) L → PassesOwn (model PySem.Challenge.rw_qd0072_01.row.prog w) (ktrTop dp un gd qual scope L f cdv [] outer) (envX qual scope L f cdv []) E →
      OutX base g L (envX qual scope L f cdv [] :: outer) o C kp E →
      wpAny (model PySem.Challenge.rw_qd0072_01.row.prog w) (ktrTop dp un gd qual scope L f cdv [] outer) (execs body (envX qual scope L f cdv [])) (Ended Post g L o) E (SH o h k)) : CtB w f vs d u news Post C kp := by
  intro dp un gd cn cs a ccd cl outer A₀ base h₀ L m s R p loose mean mg mb B F X N T hck hd hu hret hexc
  refine code_def B F X N T rfl rfl hck ho hcd (Nat.lt_of_le_of_lt (Nat.le_add_right _ _) hd) (hb s (X.keeps F.keep)) hl (fun g L' h' FG' F' N' B' X' T' => ?_) hco hgen hk (fun x hx => by simpa using List.all_eq_true.mp hcell x hx)
  refine wpAny_mono (H (dp + 1) (un + 3) gd (envX cn cs L a ccd cl :: outer) _ base g L' h' s _ p loose mean mg mb _ B' F' X' N' T' (by omega) (by omega) ⟨_, _, _, _, _, rfl, hk⟩ (by passes_own) (OutX.mk' B' FG' hk hexc)) (fun fl s' q => ?_) fun _ _ x => x
  obtain ⟨h2, k2, m2, news2, rfl, hp, F2, N2⟩ := q
  refine leaveK_ F2 N2 fun kF kN => ?_
  exact hret _ _ _ _ (by cases fl <;> exact hp) kF kN
theorem CtB.ofC (binds : List (Str × Value))
    (ho : (Mine.K w.params).lookup f = some ⟨oc, od, .func (fnOf name qual params body scope dV kV doc pm an cdv ct), osl⟩) (hcd : codeIn (Mine.K w.params) cdv qual = true)
    (hb : ∀ s : Shared, (Mine.K w.params).In s.heap → BindsTo s (fnOf name qual params body scope dV kV doc pm an cdv ct) ⟨vs, []⟩ binds)
    (hl : (binds.all fun y => scope.names.lookup y.1 == some .local || scope.names.lookup y.1 == some .cell) = true) (hnd : ((cellsFrom 0 scope.names []).map (·.1)).Nodup)
    (hco : scope.isCoroutine = false) (hgen : scope.isGenerator = false) (hk : scope.kind = .function)
    (H : ∀ (dp un : Nat) (gd : Option (List Code)) (outer : List Env) (A₀ : Around) (base g : Heap) (L : Addr) (cells : Led) (h : Heap) (o : Shared) (k : Nat) (p : Program) (loose : List Str) (mean : ExcName → Option Value) (mg mb : Str → Option Value) (E : Value → Shared → Prop),
      Below A₀ base outer g → Fr g L h (bindL (envOfC qual scope L f cdv).kindOf binds fun _ => none) → (Mine.K w.params).In g → News g L h (cells ++ news) →
      CellsAre (bindC (envOfC qual scope L f cdv).kindOf binds fun _ => none) (cellsFrom (L + 1) scope.names []) cells → Top p loose mean mg mb g → dp + d ≤ recursionLimit → un + u < cLine + 3 → FnEnv (envOfC qual scope L f cdv) L → PassesOwn (model PySem.Challenge.rw_qd0072_01.row.prog w) (ktrTop dp un gd qual scope L f cdv (cellsFrom (L + 1) scope.names []) outer) (envOfC qual scope L f cdv) E →
      (∀ p ∈ news, p.1 < L) → OutX base g L (envOfC qual scope L f cdv :: outer) o C kp E →
      wpAny (model PySem.Challenge.rw_qd0072_01.row.prog w) (ktrTop dp un gd qual scope L f cdv (cellsFrom (L + 1) scope.names []) outer) (execs body (envOfC qual scope L f cdv)) (Ended Post g L o) E (SH o h k)) : CtB w f vs d u news Post C kp := by
  intro dp un gd cn cs a ccd cl outer A₀ base h₀ L m s R p loose mean mg mb B F X N T hck hd hu hret hexc
  refine code_defC B F X N T rfl rfl hck ho hcd (Nat.lt_of_le_of_lt (Nat.le_add_right _ _) hd) (hb s (X.keeps F.keep)) hl hnd (fun g L' h' tk' cells FG' F' N' Y' B' X' T' l1 => ?_) hco hgen hk
  refine wpAny_mono (H (dp + 1) (un + 3) gd (envX cn cs L a ccd cl :: outer) _ base g L' cells h' s tk' p loose mean mg mb _ B' F' X' N' Y' T' (by omega) (by omega) ⟨_, _, _, _, _, rfl, hk⟩ (by passes_own) l1 (OutX.mk' B' FG' hk hexc)) (fun fl s' q => ?_) fun _ _ x => x
  obtain ⟨h2, k2, m2, news2, rfl, hp, F2, N2⟩ := q
  refine leaveK_ F2 N2 fun kF kN => ?_
  exact hret _ _ _ _ (by cases fl <;> exact hp) kF kN
end
section
variable {w : World} {f : Addr} {vs : List Value} {d u : Nat} {dp un : Nat} {gd : Option (List Code)} {cn : Str} {cs : Scope} {a : Addr} {ccd : Value} {cl : List (Str × Addr)} {outer : List Env} {A₀ : Around} {base h₀ h : Heap} {L : Addr} {m : Str → Option Value} {o : Shared} {k : Nat} {Q E : Value → Shared → Prop}
    {p : Program} {loose : List Str} {mean : ExcName → Option Value} {mg mb : Str → Option Value} {news : Led} {ι ι₁ ι' : Type} {C : Addr} {kp' : ι' → Addr → Addr → Led}
theorem callB {Post : Value → Led → Prop} {led : Led} {kp : ι₁ → Addr → Addr → Led} (H : CtB w f vs d u led Post C kp)
    (B : Below A₀ base outer h₀) (F : Fr h₀ L h m) (X : (Mine.K w.params).In h₀) (N : News h₀ L h led) (T : Top p loose mean mg mb h₀) (hk : cs.kind = .function) (hd : dp + d < recursionLimit) (hu : un + u < cLine)
    (OX : OutX base h₀ L (envX cn cs L a ccd cl :: outer) o C kp' E) (hkp : ∀ i, ∃ i', ∀ e D, ∀ q ∈ kp' i' e D, q ∈ kp i e D)
    (ret : ∀ r news' h' tk', Post r news' → Fr h₀ L h' m → News h₀ L h' news' → Q r (SH o h' tk')) :
    wpAny (model PySem.Challenge.rw_qd0072_01.row.prog w) (ktrTop dp un gd cn cs L a ccd cl outer) (call (.ref f) vs) Q E (SH o h k) :=
  wpAny_call (H dp un gd cn cs a ccd cl outer A₀ base h₀ L m (SH o h k) _ p loose mean mg mb B F X N T hk hd hu ret fun i e D h' tk' fl => by
    obtain ⟨i', hi⟩ := hkp i
    exact OX.on i' e D h' tk' m (fl.drop (hi e D)))
theorem callB0 {val : ι → Value} {P : ι → Prop} {more : ι → Led} {ad : ι → List Addr} {kp : ι₁ → Addr → Addr → Led}
    (H : CtB w f vs d u news (R1 P ad val news (fun i => more i ++ news)) C kp)
    (B : Below A₀ base outer h₀) (F : Fr h₀ L h m) (X : (Mine.K w.params).In h₀) (N : News h₀ L h news) (T : Top p loose mean mg mb h₀) (hk : cs.kind = .function) (hd : dp + d < recursionLimit) (hu : un + u < cLine)
    (OX : OutX base h₀ L (envX cn cs L a ccd cl :: outer) o C kp' E) (hkp : ∀ i, ∃ i', ∀ e D, ∀ q ∈ kp' i' e D, q ∈ kp i e D)
    (ret : ∀ i h' tk', P i → AllF (ad i) news → Fr h₀ L h' m → News h₀ L h' (more i ++ news) → Q (val i) (SH o h' tk')) :
    wpAny (model PySem.Challenge.rw_qd0072_01.row.prog w) (ktrTop dp un gd cn cs L a ccd cl outer) (call (.ref f) vs) Q E (SH o h k) := by
  refine callB H B F X N T hk hd hu OX hkp ?_
  rintro r l h' tk' ⟨i, hp, ha, rfl, rfl⟩ F' N'
  exact ret i h' tk' hp (AllF.of ha) F' N'
theorem callB1 {val : ι → Value} {P : ι → Prop} {x : Addr} {ob : Obj} {o' : ι → Obj} {reads : Led} {news' : ι → Led} {more : ι → Led} {ad : ι → List Addr}
    {kp : Led → ι₁ → Addr → Addr → Led} (H : ∀ rest : Led, (∀ p ∈ rest, p.1 ≠ x) → CtB w f vs d u ((x, ob) :: (reads ++ rest)) (R1 P ad val ((x, ob) :: (reads ++ rest)) (fun i => more i ++ (x, o' i) :: (reads ++ rest))) C (kp rest))
    (B : Below A₀ base outer h₀) (F : Fr h₀ L h m) (X : (Mine.K w.params).In h₀) (N : News h₀ L h news) (T : Top p loose mean mg mb h₀) (hk : cs.kind = .function) (hd : dp + d < recursionLimit) (hu : un + u < cLine)
    (OX : OutX base h₀ L (envX cn cs L a ccd cl :: outer) o C kp' E) (hx : (x, ob) ∈ news) (hr : ∀ q ∈ reads, q ∈ news) (U : ∀ i, Upd x ob (o' i) news (news' i))
    (hkp : ∀ rest : Led, (∀ q ∈ news, q.1 ≠ x → q ∈ rest) → ∀ i, ∃ i', ∀ e D, ∀ q ∈ kp' i' e D, q ∈ kp rest i e D)
    (ret : ∀ i h' tk', P i → AllF (ad i) news → Fr h₀ L h' m → News h₀ L h' (more i ++ news' i) → Q (val i) (SH o h' tk')) :
    wpAny (model PySem.Challenge.rw_qd0072_01.row.prog w) (ktrTop dp un gd cn cs L a ccd cl outer) (call (.ref f) vs) Q E (SH o h k) := by
  let rest : Led := news.filter fun q => q.1 != x
  have hm : ∀ q ∈ rest, q ∈ news ∧ q.1 ≠ x := fun q hq => ⟨(List.mem_filter.mp hq).1, by simpa using (List.mem_filter.mp hq).2⟩
  have N0 : News h₀ L h ((x, ob) :: (reads ++ rest)) := by
    intro q hq
    rcases List.mem_cons.mp hq with rfl | hq
    · exact N _ hx
    · rcases List.mem_append.mp hq with hq | hq
      · exact N _ (hr q hq)
      · exact N _ (hm q hq).1
  refine callB (H rest (fun q hq => (hm q hq).2)) B F X N0 T hk hd hu OX (hkp rest fun q hq hne => List.mem_filter.mpr ⟨hq, by simpa using hne⟩) ?_
  rintro r l h' tk' ⟨i, hp, ha, rfl, rfl⟩ F' N'
  refine ret i h' tk' hp (AllF.of fun a hai q hq => ?_) F' ?_
  · by_cases e : q.1 = x
    · rw [e]; exact ha a hai (x, ob) List.mem_cons_self
    · exact ha a hai q (List.mem_cons_of_mem _ (List.mem_append_right _ (List.mem_filter.mpr ⟨hq, by simpa using e⟩)))
  obtain ⟨pre, post, e1, e2, h1, h2⟩ := (U i).split
  rw [e2]
  intro q hq
  rcases List.mem_append.mp hq with hq | hq
  · exact N' q (List.mem_append_left _ hq)
  refine N' q (List.mem_append_right _ ?_)
  rcases List.mem_append.mp hq with hq | hq
  · refine List.mem_cons_of_mem _ (List.mem_append_right _ ?_)
    exact List.mem_filter.mpr ⟨by rw [e1]; exact List.mem_append_left _ hq, by simpa using h1 q hq⟩
  · rcases List.mem_cons.mp hq with rfl | hq
    · exact List.mem_cons_self
    · refine List.mem_cons_of_mem _ (List.mem_append_right _ ?_)
      exact List.mem_filter.mpr ⟨by rw [e1]; exact List.mem_append_right _ (List.mem_cons_of_mem _ hq), by simpa using h2 q hq⟩
end
theorem raises_d {base g h' : Heap} {L : Addr} {envs : List Env} {o s : Shared} {C : Addr} {ι : Type} {kp : ι → Addr → Addr → Led} {E : Value → Shared → Prop} {e D t : Addr} {tk' : Nat} {m' : Str → Option Value} {led : Led} (OX : OutX base g L envs o C kp E) (F : Fr g L h' m') (N : News g L h' led) (hsh : s = SH o h' tk') (i : ι)
    (he : (e, excO C (some D) t) ∈ led) (hs : ∀ q ∈ kp i e D, q ∈ led ∧ q.1 ≠ e) : RaisesX g C E (.ref e) s := by
  subst hsh
  exact ⟨e, _, _, rfl, F.keep, (N _ he).1, OX.here i e D t h' tk' m' led F N he hs⟩
theorem Ct.makeX {w : World} {C fI : Addr} {rest : List Value} {d u : Nat} {news : Led} {Post : Value → Led → Prop}
    (hk : excMk (Mine.K w.params) C 82 = true) (hi : findIn (Mine.K w.params) (.ref C) "__init__" = some (some (.ref fI))) (hf : typeIn (Mine.K w.params) (.ref fI) = some (.type "function")) (hrest : rest.length ≤ sizeLine)
    (H : ∀ x T, (∀ p ∈ news, p.1 < T) → T < x → Ct w fI (.ref x :: rest) d u ((x, excO C none T) :: (T, tupOf rest) :: news) (fun r l => r = .none ∧ Post (.ref x) l)) : Ct w C rest (d + 1) (u + 10) news Post := by
  intro dp un gd cn cs a ccd cl outer A₀ base h₀ L m s R p loose mean mg mb B F X N T hck hd hu hret
  have e1 : Code.weight (.builtin "type.__call__" ⟨.ref C :: rest, []⟩) ≤ 1 := Nat.le_of_ble_eq_true rfl
  have e2 : Code.cUnits (.builtin "type.__call__" ⟨.ref C :: rest, []⟩) ≤ 10 := Nat.le_of_ble_eq_true rfl
  exact exc_callC F X N hk hi hf hrest fun x T h' l1 l2 F' N' =>
    wpAny_call (H x T (kst_ltOf l1) l2.1 (dp + Code.weight (.builtin "type.__call__" ⟨.ref C :: rest, []⟩)) (un + Code.cUnits (.builtin "type.__call__" ⟨.ref C :: rest, []⟩)) (pushGuards (Code.guards (.builtin "type.__call__" ⟨.ref C :: rest, []⟩)) gd) cn cs a ccd cl outer A₀ base h₀ L m { s with heap := h' } _ p loose mean mg mb B F' X N' ‹_› hck (by omega) (by omega)
    (fun r news' h2 tk' hp F2 N2 => ⟨hp.1, hret _ _ _ _ hp.2 F2 N2⟩))
theorem Ct.b {w : World} {f : Addr} {vs : List Value} {d u : Nat} {news : Led} {Post Post' : Value → Led → Prop} {C : Addr} {ι : Type} {kp : ι → Addr → Addr → Led} (H : Ct w f vs d u news Post) (hp : ∀ r l, Post r l → Post' r l) : CtB w f vs d u news Post' C kp :=
  fun dp un gd cn cs a ccd cl outer A₀ base h₀ L m s R p loose mean mg mb B F X N T hck hd hu hret _ => H dp un gd cn cs a ccd cl outer A₀ base h₀ L m s R p loose mean mg mb B F X N T hck hd hu fun r l h' tk' hq => hret r l h' tk' (hp r l hq)
theorem Ct.up {w : World} {f : Addr} {vs : List Value} {d u d' u' : Nat} {news : Led} {Post : Value → Led → Prop} (H : Ct w f vs d u news Post) (h1 : d ≤ d') (h2 : u ≤ u') : Ct w f vs d' u' news Post :=
  fun dp un gd cn cs a ccd cl outer A₀ base h₀ L m s R p loose mean mg mb B F X N T hck hd hu hret => H dp un gd cn cs a ccd cl outer A₀ base h₀ L m s R p loose mean mg mb B F X N T hck (by omega) (by omega) hret
theorem R1.mono {ι : Type} {P P' : ι → Prop} {ad : ι → List Addr} {val : ι → Value} {led₀ : Led} {led : ι → Led} {r : Value} {l : Led} (h : R1 P ad val led₀ led r l) (hp : ∀ i, P i → P' i) : R1 P' ad val led₀ led r l := by
  obtain ⟨i, h1, h2⟩ := h
  exact ⟨i, hp i h1, h2⟩
/-- the same within a def that was entered -/
theorem OutX.deep {prog : Program} {w : World} {A : Around} {base g h₀ : Heap} {outer : List Env} {L L₀ a : Addr} {m₀ : Str → Option Value} {name : Str} {scope : Scope} {cd : Value} {cl : List (Str × Addr)} {o : Shared} {C : Addr} {ι : Type} {kp : ι → Addr → Addr → Led} {E : Value → Shared → Prop}
    (K : Below A base outer g) (FG : Fr h₀ L₀ g m₀) (hk : scope.kind = .function) (OX : OutX base h₀ L₀ outer o C kp E) :
    OutX base g L (envX name scope L a cd cl :: outer) o C kp (fun e s' => wpAny (model prog w) (A.deeper (envX name scope L a cd cl)) (leaving (envX name scope L a cd cl) e) (fun _ s'' => E e s'') (fun e' s'' => E e' s'') s') :=
  OutX.mk' (R := fun r s => match r with
    | .ok _ => True
    | .error e => E e s) K FG hk fun i e D h' tk' fl => OX.on i e D h' tk' m₀ fl
theorem OutX.sh {base g h : Heap} {L : Addr} {envs : List Env} {o : Shared} {k : Nat} {C : Addr} {ι : Type} {kp : ι → Addr → Addr → Led} {E : Value → Shared → Prop} (x : OutX base g L envs o C kp E) : OutX base g L envs (SH o h k) C kp E := ⟨x.here, x.on⟩
end
section
/-- a frame that called comes back to, with the frames below turned -/
theorem back_turn {A₀ : Around} {base h₀ gg g' h' : Heap} {outer : List Env} {L a : Addr} {m m' : Str → Option Value} {name : Str} {scope : Scope} {cd : Value} {cl : List (Str × Addr)} {L' : Addr} {news' : Led} {K : Frag} {p : Program} {loose : List Str} {mean : ExcName → Option Value} {mg mb : Str → Option Value}
    (B : Below A₀ base outer h₀) (FG : Fr h₀ L gg m) (T' : KtsTurn ((envX name scope L a cd cl :: outer).filterMap (·.frame)) gg g') (F' : Fr g' L' h' m') (N' : News g' L' h' news') (XB : K.In base) (TB : Top p loose mean mg mb base) :
    ∃ h₀', KtsTurn (outer.filterMap (·.frame)) h₀ h₀' ∧ Fr h₀' L h' m ∧ News h₀' L h' news' ∧ Below A₀ base outer h₀' ∧ K.In h₀' ∧ Top p loose mean mg mb h₀' := by
  obtain ⟨h₀', T₁, F₁, B₁⟩ := kts_ground (name := name) (scope := scope) (a := a) (cd := cd) B FG (B := h') (h₅ := h') (fun b o e nm => F'.keep b o (T'.other b o e nm)) (fun _ _ e => e)
    (fun b o e _ => let ⟨sl, hs⟩ := T'.up e; ⟨sl, F'.keep _ _ hs⟩)
  refine ⟨h₀', T₁, F₁, fun p hp => ?_, B₁, XB.keeps B₁.stays, TB.keeps B₁.stays⟩
  have hn : gg.get? p.1 = none := by
    cases q : gg.get? p.1 with
    | none => rfl
    | some o =>
      obtain ⟨sl, hs⟩ := T'.up q
      have := (N' p hp).2.2
      rw [hs] at this
      cases this
  refine ⟨(N' p hp).1, fun q => ?_, T₁.none_ _ (kts_none FG.keep hn)⟩
  obtain ⟨oL, es, ep, hL, _⟩ := FG.ns
  rw [q, hL] at hn
  cases hn
theorem dicts_push {h₀ gg : Heap} {outer : List Env} {L a : Addr} {m : Str → Option Value} {name : Str} {scope : Scope} {cd : Value} {cl : List (Str × Addr)} (D : KtsDicts (outer.filterMap (·.frame)) h₀) (FG : Fr h₀ L gg m) : KtsDicts ((envX name scope L a cd cl :: outer).filterMap (·.frame)) gg := fun b hb => by
  rcases mem_frames rfl hb with rfl | hb
  · obtain ⟨oL, es, ep, hL, hd, _⟩ := FG.ns
    exact ⟨oL, es, ep, hL, hd⟩
  · obtain ⟨o, es, n, ho, hd⟩ := D b hb
    exact ⟨o, es, n, FG.keep _ _ ho, hd⟩
/-- as Ct; the frames below may come back turned (a caught exception marks them) -/
noncomputable def CtT (w : World) (f : Addr) (vs : List Value) (d u : Nat) (news : Led) (Post : Value → Led → Prop) : Prop :=
  ∀ (dp un : Nat) (gd : Option (List Code)) (cn : Str) (cs : Scope) (a : Addr) (ccd : Value) (cl : List (Str × Addr)) (outer : List Env) (A₀ : Around) (base h₀ : Heap) (L : Addr) (m : Str → Option Value) (s : Shared) (R : Result → Shared → Prop)
    (p : Program) (loose : List Str) (mean : ExcName → Option Value) (mg mb : Str → Option Value),
    Below A₀ base outer h₀ → Fr h₀ L s.heap m → (Mine.K w.params).In h₀ → News h₀ L s.heap news → Top p loose mean mg mb h₀ → (Mine.K w.params).In base → Top p loose mean mg mb base → KtsDicts (outer.filterMap (·.frame)) h₀ → cs.kind = .function → dp + d < recursionLimit → un + u < cLine →
    (∀ r news' h' tk' h₀', KtsTurn (outer.filterMap (·.frame)) h₀ h₀' → Post r news' → Fr h₀' L h' m → News h₀' L h' news' → Below A₀ base outer h₀' → (Mine.K w.params).In h₀' → Top p loose mean mg mb h₀' → R (.ok (.ret r)) { s with heap := h', toks := tk' }) →
    codeAny (model PySem.Challenge.rw_qd0072_01.row.prog w) (ktrTop dp un gd cn cs L a ccd cl outer) (.call (.ref f) ⟨vs, []⟩) R s
/-- a body is through; g may have turned -/
noncomputable def EndedT (Post : Value → Led → Prop) (g : Heap) (fs : List Addr) (L : Addr) (o : Shared) (fl : Flow) (s' : Shared) : Prop :=
  ∃ g' h' k' m' news', s' = SH o h' k' ∧ KtsTurn fs g g' ∧ Post (retOf fl) news' ∧ Fr g' L h' m' ∧ News g' L h' news'
theorem EndedT.ret {Post : Value → Led → Prop} {g g' h' : Heap} {fs : List Addr} {L : Addr} {o : Shared} {v : Value} {news' : Led} {m' : Str → Option Value} {k' : Nat} (T : KtsTurn fs g g') (hp : Post v news') (F : Fr g' L h' m') (N : News g' L h' news') : EndedT Post g fs L o (.ret v) (SH o h' k') := ⟨g', h', k', m', news', rfl, T, hp, F, N⟩
section
variable {w : World} {f : Addr} {vs : List Value} {d u : Nat} {news : Led} {Post : Value → Led → Prop} {name qual : Str} {params : Arguments} {body : List Stmt} {scope : Scope} {dV kV doc pm cdv ct oc : Value} {an od : Option Addr} {osl : Array (Option Value)}
theorem CtT.of (binds : List (Str × Value))
    (ho : (Mine.K w.params).lookup f = some ⟨oc, od, .func (fnOf name qual params body scope dV kV doc pm an cdv ct), osl⟩) (hcd : codeIn (Mine.K w.params) cdv qual = true)
    (hb : ∀ s : Shared, (Mine.K w.params).In s.heap → BindsTo s (fnOf name qual params body scope dV kV doc pm an cdv ct) ⟨vs, []⟩ binds) (hl : ∀ y ∈ binds, scope.names.lookup y.1 = some .local)
    (hco : scope.isCoroutine = false) (hgen : scope.isGenerator = false) (hk : scope.kind = .function) (hcell : (scope.names.all fun x => x.2 != .cell) = true)
    (H : ∀ (dp un : Nat) (gd : Option (List Code)) (outer : List Env) (A₀ : Around) (base g : Heap) (L : Addr) (h : Heap) (o : Shared) (k : Nat) (p : Program) (loose : List Str) (mean : ExcName → Option Value) (mg mb : Str → Option Value) (E : Value → Shared → Prop),
      Below A₀ base outer g → Fr g L h (fun y => List.lookup y binds.reverse) → (Mine.K w.params).In g → News g L h news → Top p loose mean mg mb g → (Mine.K w.params).In base → Top p loose mean mg mb base → KtsDicts (outer.filterMap (·.frame)) g → dp + d ≤ recursionLimit → un + u < cLine + 3 → FnEnv (envX qual scope L f cdv []) L → PassesOwn (model PySem.Challenge.rw_qd0072_01.row.prog w) (ktrTop dp un gd qual scope L f cdv [] outer) (envX qual scope L f cdv []) E →
      wpAny (model PySem.Challenge.rw_qd0072_01.row.prog w) (ktrTop dp un gd qual scope L f cdv [] outer) (execs body (envX qual scope L f cdv [])) (EndedT Post g (outer.filterMap (·.frame)) L o) E (SH o h k)) : CtT w f vs d u news Post := by
  intro dp un gd cn cs a ccd cl outer A₀ base h₀ L m s R p loose mean mg mb B F X N T XB TB D hck hd hu hret
  obtain ⟨FG, BG, st, -⟩ := groundX (R := R) (A := ktrTop dp un gd cn cs L a ccd cl outer) (env := envX cn cs L a ccd cl) B F N rfl rfl hck
  refine codeAny_call_def (fd := fnOf name qual params body scope dV kV doc pm an cdv ct) (body := body) (binds := binds) (Nat.lt_of_le_of_lt (Nat.le_add_right _ _) hd) ((X.keeps F.keep) _ _ ho) rfl (T.nolimit.keeps F.keep) (codeRec_of (X.keeps F.keep) hcd) rfl (hb s (X.keeps F.keep)) (fun x hx => by simpa using List.all_eq_true.mp hcell x hx) hl (fun h₁ hns hk₁ => ?_) hco hgen hk
  refine wpAny_mono (H (dp + 1) (un + 3) gd (envX cn cs L a ccd cl :: outer) _ base _ s.heap.objs.size h₁ s _ p loose mean mg mb _ BG ⟨hns, fun b o e => hk₁ b o (of_hideAll _ e), Nat.le_of_eq (hideAll_size _ _)⟩ (X.keeps st)
    (fun p hp => ⟨hk₁ _ _ (N p hp).1, Nat.ne_of_lt (Heap.lt_size (N p hp).1), hideAll_none _ (List.mem_map_of_mem hp)⟩) (T.keeps st) XB TB (dicts_push D FG) (by omega) (by omega) ⟨_, _, _, _, _, rfl, hk⟩ (by passes_own)) (fun fl s' q => ?_) fun _ _ x => x
  obtain ⟨g', h2, k2, m2, news2, rfl, T2, hp, F2, N2⟩ := q
  obtain ⟨h₀', T₁, F₁, N₁, B₁, X₁, P₁⟩ := back_turn B FG T2 F2 N2 XB TB
  exact hret _ _ _ _ h₀' T₁ (by cases fl <;> exact hp) F₁ N₁ B₁ X₁ P₁
end
section
variable {w : World} {f : Addr} {vs : List Value} {d u : Nat} {dp un : Nat} {gd : Option (List Code)} {cn : Str} {cs : Scope} {a : Addr} {ccd : Value} {cl : List (Str × Addr)} {outer : List Env} {A₀ : Around} {base h₀ h : Heap} {L : Addr} {m : Str → Option Value} {o : Shared} {k : Nat} {Q E : Value → Shared → Prop}
    {p : Program} {loose : List Str} {mean : ExcName → Option Value} {mg mb : Str → Option Value} {led : Led} {C : Addr}
/-- a call of what may raise, where the frame itself catches -/
theorem callBT {ι : Type} {Post : Value → Led → Prop} {kp : ι → Addr → Addr → Led} (H : CtB w f vs d u led Post C kp)
    (B : Below A₀ base outer h₀) (F : Fr h₀ L h m) (X : (Mine.K w.params).In h₀) (N : News h₀ L h led) (T : Top p loose mean mg mb h₀) (hk : cs.kind = .function) (hd : dp + d < recursionLimit) (hu : un + u < cLine)
    (ret : ∀ r news' h' tk', Post r news' → Fr h₀ L h' m → News h₀ L h' news' → Q r (SH o h' tk'))
    (exc : ∀ i e D h' tk', Flew base h₀ L m (envX cn cs L a ccd cl :: outer) e C D (kp i e D) h' → E (.ref e) (SH o h' tk')) :
    wpAny (model PySem.Challenge.rw_qd0072_01.row.prog w) (ktrTop dp un gd cn cs L a ccd cl outer) (call (.ref f) vs) Q E (SH o h k) :=
  wpAny_call (H dp un gd cn cs a ccd cl outer A₀ base h₀ L m (SH o h k) _ p loose mean mg mb B F X N T hk hd hu ret exc)
theorem callT {Post : Value → Led → Prop} (H : CtT w f vs d u led Post)
    (B : Below A₀ base outer h₀) (F : Fr h₀ L h m) (X : (Mine.K w.params).In h₀) (N : News h₀ L h led) (T : Top p loose mean mg mb h₀) (XB : (Mine.K w.params).In base) (TB : Top p loose mean mg mb base) (D : KtsDicts (outer.filterMap (·.frame)) h₀) (hk : cs.kind = .function) (hd : dp + d < recursionLimit) (hu : un + u < cLine)
    (ret : ∀ r news' h' tk' h₀', KtsTurn (outer.filterMap (·.frame)) h₀ h₀' → Post r news' → Fr h₀' L h' m → News h₀' L h' news' → Below A₀ base outer h₀' → (Mine.K w.params).In h₀' → Top p loose mean mg mb h₀' → Q r (SH o h' tk')) :
    wpAny (model PySem.Challenge.rw_qd0072_01.row.prog w) (ktrTop dp un gd cn cs L a ccd cl outer) (call (.ref f) vs) Q E (SH o h k) :=
  wpAny_call (H dp un gd cn cs a ccd cl outer A₀ base h₀ L m (SH o h k) _ p loose mean mg mb B F X N T XB TB D hk hd hu ret)
end
/-- what `except X:` does with an own exception of that very class -/
theorem caughtX {prog : Program} {w : World} {A A₀ : Around} {E : Value → Shared → Prop} {s' : Shared} {base g : Heap} {outer : List Env} {L a e C D : Addr} {m : Str → Option Value} {name : Str} {scope : Scope} {cd : Value} {cl : List (Str × Addr)}
    {b₀ : Stmt} {suite : List Stmt} {pos np : Pos} {rest : List ExceptHandler} {Q : Flow → Shared → Prop} {news : Led} {KF : Frag} {p : Program} {loose : List Str} {mean : ExcName → Option Value} {mg mb : Str → Option Value} {x : Str}
    (fl : Flew base g L m (envX name scope L a cd cl :: outer) e C D news s'.heap) (hA : A.frames = some (envX name scope L a cd cl :: outer)) (K : Below A₀ base outer g) (XB : KF.In base) (TB : Top p loose mean mg mb base) (Dc : KtsDicts (outer.filterMap (·.frame)) g)
    (ex : nsIn KF mainGlobals x = some (some (.ref C))) (q : ktsIn KF C "BaseException" = true) (hk : scope.kind = .function) (hx : (envX name scope L a cd cl).kindOf x = some .globalImplicit) (hd : (x == ("__debug__" : Str)) = false)
    (k : ∀ h' g' oe, KtsTurn (outer.filterMap (·.frame)) g g' → Fr g' L h' m → News g' L h' ((e, oe) :: news) → oe.cls = .ref C → oe.dict = some D → Below A₀ base outer g' → KF.In g' → Top p loose mean mg mb g' → KtsDicts (outer.filterMap (·.frame)) g' →
      wpAny (model prog w) (A.mark (some (.ref e))) (execs (b₀ :: suite) (envX name scope L a cd cl)) Q (fun _ _ => False) { s' with heap := h' }) :
    wpAny (model prog w) A (noteFrame (.ref e) (envX name scope L a cd cl))
      (fun _ s₂ => wpAny (model prog w) A (setFlight (.ref e) none) (fun _ s₃ =>
        wpAny (model prog w) A (handleBy (.ref e) (envX name scope L a cd cl) (.ExceptHandler (some (.Name x np)) none (b₀ :: suite) pos :: rest)) Q E s₃) E s₂) E s' := by
  obtain ⟨G, F, ⟨B, hB, hBG, hl, hfl⟩, hsm⟩ := fl
  have hL : B.get? L = none := by
    obtain ⟨_, ⟨L', _, hf, hn', _⟩, _⟩ := hfl.2.2.1
    obtain rfl : L = L' := Option.some.inj hf
    exact hn'
  refine lookD hA rfl hfl fun h₄ x₄ u₄ => ?_
  refine landD x₄ fun h₅ x₅ u₅ => ?_
  have hsm₅ := hsm.trans (u₄.trans u₅)
  obtain ⟨g₅, T₅, F₅, K₅⟩ := kts_ground (name := name) (scope := scope) (a := a) (cd := cd) K F hBG x₅.1 hsm₅
  have X₅ : KF.In g₅ := XB.keeps K₅.stays
  have P₅ : TopRead p loose mg mb g₅ := topRead_of (TB.keeps K₅.stays)
  obtain ⟨ob, hob, hobc, -⟩ := x₅.there
  obtain ⟨nm, q', N, bs, bm, hdct, sn, sub, ab, col, dd, k0, k1, k2, k3, k5, newId, hC, hbase, hbT⟩ := kts_cls X₅ q
  have hC₅ := F₅.keep _ _ hC
  refine wpAny_handleBy_cons (codeAny_handlers_test (nameX_K F₅ X₅ P₅ ex ?_ hk hx hd)) (by intro q; cases q)
  refine wpAny_excMatches_sub_self hC₅ hob hobc hbase (codeAny_handlers_suite ?_)
  refine landD x₅ fun h₆ x₆ u₆ => ?_
  obtain ⟨g₆, T₆, F₆, K₆⟩ := kts_ground (name := name) (scope := scope) (a := a) (cd := cd) K F hBG x₆.1 (hsm₅.trans u₆)
  obtain ⟨oe, he, hc, hd', vs, hvs⟩ := x₆.there
  have ne₆ : g₆.get? e = none := T₆.none_ _ (kts_fresh (name := name) (scope := scope) (a := a) (cd := cd) F hBG x₆.2.1 fun o ho m => by
    obtain ⟨_, o', ho', hd⟩ := K.frames.mem m
    rw [ho] at ho'
    cases ho'
    obtain ⟨sl, hs⟩ := (hsm₅.trans u₆) _ _ (F.keep _ _ ho) hd
    rw [he] at hs
    cases hs
    exact hd _ hvs)
  have N₆ : News g₆ L h₆ [(e, oe)] := News.more F₆ News.nil he (fun es n q => by rw [hvs] at q; cases q) ne₆
  have Nl : News g₆ L h₆ news := fun q hq => ⟨x₆.1 _ _ (hl q hq).1, (fun z => by have := (hl q hq).1; rw [z, hL] at this; cases this), T₆.none_ _ (kts_none F.keep (hl q hq).2.1)⟩
  exact wpAny_mono (k h₆ g₆ oe T₆ F₆ (fun q hq => (List.mem_cons.mp hq).elim (fun z => N₆ q (z ▸ .head _)) (Nl q)) hc hd' K₆ (XB.keeps K₆.stays) (TB.keeps K₆.stays) (Dc.turn T₆)) (fun _ _ x => x) fun _ _ x => x.elim
end
section
section
variable {w : World} {f : Addr} {vs : List Value} {d u : Nat} {news : Led} {Post : Value → Led → Prop} {name qual : Str} {params : Arguments} {body : List Stmt} {scope : Scope} {dV kV doc pm cdv ct oc : Value} {an od : Option Addr} {osl : Array (Option Value)}
/-- CtT of a def with cells -/
theorem CtT.ofC (binds : List (Str × Value))
    (ho : (Mine.K w.params).lookup f = some ⟨oc, od, .func (fnOf name qual params body scope dV kV doc pm an cdv ct), osl⟩) (hcd : codeIn (Mine.K w.params) cdv qual = true)
    (hb : ∀ s : Shared, (Mine.K w.params).In s.heap → BindsTo s (fnOf name qual params body scope dV kV doc pm an cdv ct) ⟨vs, []⟩ binds)
    (hl : (binds.all fun y => scope.names.lookup y.1 == some .local || scope.names.lookup y.1 == some .cell) = true) (hnd : ((cellsFrom 0 scope.names []).map (·.1)).Nodup)
    (hco : scope.isCoroutine = false) (hgen : scope.isGenerator = false) (hk : scope.kind = .function)
    (H : ∀ (dp un : Nat) (gd : Option (List Code)) (outer : List Env) (A₀ : Around) (base g : Heap) (L : Addr) (cells : Led) (h : Heap) (o : Shared) (k : Nat) (p : Program) (loose : List Str) (mean : ExcName → Option Value) (mg mb : Str → Option Value) (E : Value → Shared → Prop),
      Below A₀ base outer g → Fr g L h (bindL (envOfC qual scope L f cdv).kindOf binds fun _ => none) → (Mine.K w.params).In g → News g L h (cells ++ news) →
      CellsAre (bindC (envOfC qual scope L f cdv).kindOf binds fun _ => none) (cellsFrom (L + 1) scope.names []) cells → Top p loose mean mg mb g → (Mine.K w.params).In base → Top p loose mean mg mb base → KtsDicts (outer.filterMap (·.frame)) g → dp + d ≤ recursionLimit → un + u < cLine + 3 → FnEnv (envOfC qual scope L f cdv) L → PassesOwn (model PySem.Challenge.rw_qd0072_01.row.prog w) (ktrTop dp un gd qual scope L f cdv (cellsFrom (L + 1) scope.names []) outer) (envOfC qual scope L f cdv) E →
      (∀ p ∈ news, p.1 < L) →
      wpAny (model PySem.Challenge.rw_qd0072_01.row.prog w) (ktrTop dp un gd qual scope L f cdv (cellsFrom (L + 1) scope.names []) outer) (execs body (envOfC qual scope L f cdv)) (EndedT Post g (outer.filterMap (·.frame)) L o) E (SH o h k)) : CtT w f vs d u news Post := by
  intro dp un gd cn cs a ccd cl outer A₀ base h₀ L m s R p loose mean mg mb B F X N T XB TB D hck hd hu hret
  obtain ⟨FG, BG, st, -⟩ := groundX (R := R) (A := ktrTop dp un gd cn cs L a ccd cl outer) (env := envX cn cs L a ccd cl) B F N rfl rfl hck
  have X1 := X.keeps F.keep
  refine codeAny_call_function (Nat.lt_of_le_of_lt (Nat.le_add_right _ _) hd) (X1 _ _ ho) rfl hco hgen rfl (codeRec_of X1 hcd) (hb s X1 _ _ _ _ ?_)
  refine wpAny_newFunctionEnv_cells hk (kindsX hl _) fun env' he s' x => ?_
  subst he
  refine ⟨(T.nolimit.keeps F.keep).keeps x.toInCall.keep, codeAny_func ?_⟩
  obtain ⟨h₁, tk, rfl, _⟩ := x.done
  have hk₁ := x.toInCall.keep
  obtain ⟨cells, NC, Y⟩ := Cl.news (h₀ := s.heap) (Nat.le_refl _) fun n c hm => ⟨x.cell n c (lookup_of_mem_nodup (cellsFrom_names scope.names 0 (s.heap.objs.size + 1) [] [] rfl ▸ hnd) hm), x.above n c hm⟩
  have N1 : News (hideAll s.heap (news.map (·.1))) s.heap.objs.size h₁ (cells ++ news) := fun p hp => (List.mem_append.mp hp).elim (fun hp => ⟨(NC p hp).1, (NC p hp).2.1, kts_none (fun b o e => of_hideAll _ e) (NC p hp).2.2⟩)
    fun hp => ⟨hk₁ _ _ (N p hp).1, Nat.ne_of_lt (Heap.lt_size (N p hp).1), hideAll_none _ (List.mem_map_of_mem hp)⟩
  refine wpAny_mono (H (dp + 1) (un + 3) gd (envX cn cs L a ccd cl :: outer) _ base _ s.heap.objs.size cells h₁ s tk p loose mean mg mb _ BG ⟨x.toInCall.ns, fun b o e => hk₁ b o (of_hideAll _ e), Nat.le_of_eq (hideAll_size _ _)⟩ (X.keeps st)
    N1 Y (T.keeps st) XB TB (dicts_push D FG) (by omega) (by omega) ⟨_, _, _, _, _, rfl, hk⟩ (by passes_own) (fun p hp => Heap.lt_size (N p hp).1)) (fun fl s' q => ?_) fun _ _ x => x
  obtain ⟨g', h2, k2, m2, news2, rfl, T2, hp, F2, N2⟩ := q
  obtain ⟨h₀', T₁, F₁, N₁, B₁, X₁, P₁⟩ := back_turn B FG T2 F2 N2 XB TB
  exact hret _ _ _ _ h₀' T₁ (by cases fl <;> exact hp) F₁ N₁ B₁ X₁ P₁
end
/-- a lambda that the call has made, without arguments -/
theorem CtB.ofLam {w : World} {f c' : Addr} {d u : Nat} {news : Led} {Post : Value → Led → Prop} {C : Addr} {ι : Type} {kp : ι → Addr → Addr → Led} {name qual : Str} {params : Arguments} {body : PySem.Expr} {scope : Scope} {cl' : List (Str × Addr)} {pm ctv : Value} {oc : Obj} {ovs : Array Value} {tq : Tok}
    (ho : (f, kla_obj name qual params body scope cl' pm c' ctv) ∈ news) (hc : (c', oc) ∈ news) (hcd : oc.data = .fields ovs) (hcv : ovs[1]? = some (.str qual tq))
    (hb : bindArgs (kla_fn name qual params body scope cl' pm (.ref c') ctv) ⟨[], []⟩ = pure [])
    (hco : scope.isCoroutine = false) (hgen : scope.isGenerator = false) (hk : scope.kind = .function) (hcell : (scope.names.all fun x => x.2 != .cell) = true)
    (H : ∀ (dp un : Nat) (gd : Option (List Code)) (outer : List Env) (A₀ : Around) (base g : Heap) (L : Addr) (h : Heap) (o : Shared) (k : Nat) (p : Program) (loose : List Str) (mean : ExcName → Option Value) (mg mb : Str → Option Value) (E : Value → Shared → Prop),
      Below A₀ base outer g → Fr g L h (fun y => List.lookup y ([] : List (Str × Value)).reverse) → (Mine.K w.params).In g → News g L h news → Top p loose mean mg mb g → dp + d ≤ recursionLimit → un + u < cLine + 3 → FnEnv (envX qual scope L f (.ref c') cl') L →
      OutX base g L (envX qual scope L f (.ref c') cl' :: outer) o C kp E →
      wpAny (model PySem.Challenge.rw_qd0072_01.row.prog w) (ktrTop dp un gd qual scope L f (.ref c') cl' outer) (eval body (envX qual scope L f (.ref c') cl')) (fun v s' => Ended Post g L o (.ret v) s') E (SH o h k)) : CtB w f [] d u news Post C kp := by
  intro dp un gd cn cs a ccd cl outer A₀ base h₀ L m s R p loose mean mg mb B F X N T hck hd hu hret hexc
  refine kla_code B F X N T rfl rfl hck ho (codeRec_news N hc hcd hcv) (Nat.lt_of_le_of_lt (Nat.le_add_right _ _) hd) hb (fun _ h => nomatch h) (fun g L' h' FG' F' N' B' X' T' => ?_) hco hgen hk (fun x hx => by simpa using List.all_eq_true.mp hcell x hx)
  refine wpAny_mono (H (dp + 1) (un + 3) gd (envX cn cs L a ccd cl :: outer) _ base g L' h' s _ p loose mean mg mb _ B' F' X' N' T' (by omega) (by omega) ⟨_, _, _, _, _, rfl, hk⟩ (OutX.mk' B' FG' hk hexc)) (fun v s' q => ?_) fun _ _ x => x
  obtain ⟨h2, k2, m2, news2, rfl, hp, F2, N2⟩ := q
  exact leaveK_ F2 N2 fun kF kN => hret _ _ _ _ hp kF kN
/-- one statement, then the rest -/
theorem seqC {M : Model} {A : Around} {E : Value → Shared → Prop} {s : Shared} {env : Env} {st : Stmt} {rest : List Stmt} {Q : Flow → Shared → Prop} {Mid : Shared → Prop}
    (H : wpAny M A (exec st env) (fun f s' => f = .next ∧ Mid s') E s) (k : ∀ s', Mid s' → wpAny M A (execs rest env) Q E s') : wpAny M A (execs (st :: rest) env) Q E s :=
  wpAny_execs_cons (wpAny_mono H (fun f s' q => by obtain ⟨rfl, q⟩ := q; exact k s' q) fun _ _ x => x)
/-- a statement's end: the locals that are known, the ledger -/
structure Mid (g : Heap) (L : Addr) (o : Shared) (ps : List (Str × Value)) (led : Led) (s : Shared) : Prop where
  go : ∃ (h : Heap) (k : Nat) (m : Str → Option Value), s = SH o h k ∧ Fr g L h m ∧ (∀ p ∈ ps, m p.1 = some p.2) ∧ News g L h led
theorem Mid.of {g h : Heap} {L : Addr} {o : Shared} {k : Nat} {ps : List (Str × Value)} {led news : Led} {m : Str → Option Value} (F : Fr g L h m) (N : News g L h news) (hp : ∀ p ∈ ps, m p.1 = some p.2) (hl : ∀ q ∈ led, q ∈ news) : Mid g L o ps led (SH o h k) := ⟨h, k, m, rfl, F, hp, fun q hq => N q (hl q hq)⟩
theorem Mid.open {g : Heap} {L : Addr} {o s : Shared} {ps : List (Str × Value)} {led : Led} (x : Mid g L o ps led s) : ∃ h k mm, s = SH o h k ∧ Fr g L h (kstB mm ps) ∧ News g L h led := by
  obtain ⟨h, k, m, e, F, hp, N⟩ := x
  exact ⟨h, k, m, e, by rw [show kstB m ps = m from funext fun y => kstB_eq hp fun _ => rfl]; exact F, N⟩
end
section
noncomputable abbrev curD (w : World) (k1 k2 : Tok) (x : Str) (t : Tok) (a : Int) (ta : Tok) : Obj := dictOf [en w "text" k1 (.str x t), en w "at" k2 (.int a ta)] 2
/-- the sign of a text at a place -/
structure AtC (x : Str) (a : Int) (c : Nat) : Prop where
  lo : 0 ≤ a
  go : x.cps[a.toNat]? = some c
theorem AtC.hi {x : Str} {a : Int} {c : Nat} (h : AtC x a c) : a < x.length := by
  have h1 := h.lo
  have := (Array.getElem?_eq_some_iff.mp h.go).1
  show a < (x.cps.size : Int)
  omega
theorem AtC.seq {x : Str} {a : Int} {c : Nat} (h : AtC x a c) : (seqIndex? a x.length).bind (x.cps[·]?) = some c := by
  have h1 := h.lo
  have h2 := h.hi
  have e : seqIndex? a x.length = some a.toNat := by
    unfold seqIndex?
    have h3 : ¬ a < 0 := by omega
    simp [h1, h2, h3]
  rw [e]
  exact h.go
theorem AtC.item {x : Str} {a : Int} {c : Nat} (h : AtC x a c) : Txt.item x a = ⟨#[c]⟩ := by
  unfold Txt.item Txt.charAt
  rw [h.seq]
  rfl
section
variable {c : DC} {h g : Heap} {L : Addr} {m : Str → Option Value} {x : Str} {pos pos2 : Pos} {k k1 k2 : Nat} {t u : Tok} {a : Int} {ch : Nat} {e i : PySem.Expr} {K : Frag} {p : Program} {loose : List Str} {mean : ExcName → Option Value} {mg mb : Str → Option Value}
/-- a sign of a text -/
theorem Ev.chr (H1 : Ev c h e k (.str x t) k1) (H2 : Ev c h i k1 (.int a u) k2) (hc : AtC x a ch) (hz : x.length ≤ 5000)
    (hs : ∀ t u, subscripted i false (.str x t) (.int a u) = operate [.str x t, .int a u] (getItem (.str x t) (.int a u))) : Ev c h (.Subscript e i pos) k (.str ⟨#[ch]⟩ k2) (k2 + 1) := by
  obtain ⟨prog, w, A, env, o⟩ := c
  have h1 := hc.lo
  have h2 := hc.hi
  exact ⟨fun Q E hq => Subscript_ (H1.go _ _ (H2.go _ _ (tail_any (typeIs_str _ x t) PySem.F.slot_str_getitem.lookup (P.getItem_str (by simp; omega) hc.seq hq) (hs _ _))))⟩
/-- the length of a text -/
theorem Ev.lenS (F : Fr g L h m) (he : FnEnv c.env L) (X : (Mine.K c.w.params).In g) (T : Top p loose mean mg mb g) (H : Ev c h e k (.str x t) k1) (hx : c.env.kindOf (Str.ofString "len") = some .globalImplicit) (hz : x.length ≤ 5000)
    (hcl : eval (.Call (.Name (Str.ofString "len") pos2) [e] [] pos) c.env = (do let __do_lift ← eval (.Name (Str.ofString "len") pos2) c.env; callWith pos __do_lift [] (backTo pos (starEach [e] c.env)) (backToKw pos (keywordEach [] c.env))))
    (hs : starEach [e] c.env = (false, eval e c.env) :: starEach [] c.env) (hpl : ((backTo pos (starEach [] c.env)).any fun x => x.1) = false) :
    Ev c h (.Call (.Name (Str.ofString "len") pos2) [e] [] pos) k (.int x.length (k1 + 1)) (k1 + 2) := by
  have Hf : Ev c h (.Name (Str.ofString "len") pos2) k (.builtin "len") k := Ev.blt F he X T (by kernel_rfl) (by kernel_rfl) hx (by decide +kernel) (by decide +kernel)
  have Ha : EvL c h [e] k [.str x t] k1 := EvL.cons H EvL.nil hs
  obtain ⟨prog, w, A, env, o⟩ := c
  exact ⟨fun Q E hq => Call_ (Hf.go _ _ (callWith_builtin1 (Ha.go _ _ _ (P.len_str (by omega) hq)) hs hpl)) hcl⟩
end
theorem slice_list {x : Str} {i j : Int} (h0 : 0 ≤ i) (h1 : i ≤ j) (h2 : j ≤ x.length) : Txt.slice x (some i) (some j) = ⟨((x.cps.toList.drop i.toNat).take (j - i).toNat).toArray⟩ := beq_iff_eq.mp (slice_closesL h0 h1 h2)
theorem slice0 {x : Str} {a : Int} (h0 : 0 ≤ a) (h : a ≤ x.length) : Txt.slice x (some a) (some (a + ((0 : Nat) : Int))) = Str.ofString "" := by
  rw [slice_list h0 (by omega) (by omega), show (a + ((0 : Nat) : Int) - a).toNat = 0 from by omega, List.take_zero]
  decide +kernel
theorem starts1 {x y : Str} {a : Int} {c d : Nat} (hc : AtC x a c) (hy : y = ⟨#[d]⟩) : (Txt.slice x (some a) (some (a + (y.length : Int))) == y) = (c == d) := by
  subst hy
  have h1 := hc.lo
  have h2 := hc.hi
  show (Txt.slice x (some a) (some (a + 1)) == _) = _
  rw [slice_list h1 (by omega) (by omega), show (a + 1 - a).toNat = 1 from by omega]
  have e : (x.cps.toList.drop a.toNat).take 1 = [c] := by
    have := hc.go
    rw [← Array.getElem?_toList] at this
    rw [List.take_one, List.head?_drop, this]
    rfl
  rw [e]
  by_cases h : c = d
  · subst h; simp
  · have : (⟨[c].toArray⟩ : Str) ≠ ⟨#[d]⟩ := fun q => h (by simpa using q)
    rw [beq_eq_false_iff_ne.mpr this, beq_eq_false_iff_ne.mpr h]
theorem starts2 {x y : Str} {a : Int} {c c2 d d2 : Nat} (hc : AtC x a c) (hc2 : AtC x (a + 1) c2) (hy : y = ⟨#[d, d2]⟩) : (Txt.slice x (some a) (some (a + (y.length : Int))) == y) = (c == d && c2 == d2) := by
  subst hy
  have h1 := hc.lo
  have h2 := hc2.hi
  show (Txt.slice x (some a) (some (a + 2)) == _) = _
  rw [slice_list h1 (by omega) (by omega), show (a + 2 - a).toNat = 2 from by omega]
  have e : (x.cps.toList.drop a.toNat).take 2 = [c, c2] := by
    have g1 := hc.go
    have g2 := hc2.go
    rw [← Array.getElem?_toList] at g1 g2
    rw [show (a + 1).toNat = a.toNat + 1 from by omega] at g2
    rw [List.take_add_one, List.take_one, List.head?_drop, g1, List.getElem?_drop, g2]
    rfl
  rw [e]
  by_cases h : c = d
  · by_cases h' : c2 = d2
    · subst h h'; simp
    · have : (⟨[c, c2].toArray⟩ : Str) ≠ ⟨#[d, d2]⟩ := fun q => h' (by simpa [h] using q)
      rw [beq_eq_false_iff_ne.mpr this, beq_eq_false_iff_ne.mpr h', Bool.and_false]
  · have : (⟨[c, c2].toArray⟩ : Str) ≠ ⟨#[d, d2]⟩ := fun q => h (by simp at q; exact q.1)
    rw [beq_eq_false_iff_ne.mpr this, beq_eq_false_iff_ne.mpr h, Bool.false_and]
/-- a sign stands in a text of signs -/
noncomputable abbrev inSS (x y : Str) : Bool := !(Builtin.Str.occurrences x y 0 x.length 1).isEmpty
noncomputable abbrev inS (y : Str) (c : Nat) : Bool := inSS y ⟨#[c]⟩
theorem in_T {prog : Program} {w : World} {A : Around} {E : Value → Shared → Prop} {s : Shared} {x y : Str} {t u : Tok} {Q : Value → Shared → Prop} (e : inSS x y = true) (h : Q (.bool true) s) : wpAny (model prog w) A (compareOp .In (.str y u) (.str x t)) Q E s :=
  (CmpIs.inS (c := ⟨prog, w, A, default, s⟩) (h := s.heap) (r := true) e).go s.toks Q E h
theorem in_F {prog : Program} {w : World} {A : Around} {E : Value → Shared → Prop} {s : Shared} {x y : Str} {t u : Tok} {Q : Value → Shared → Prop} (e : inSS x y = false) (h : Q (.bool false) s) : wpAny (model prog w) A (compareOp .In (.str y u) (.str x t)) Q E s :=
  (CmpIs.inS (c := ⟨prog, w, A, default, s⟩) (h := s.heap) (r := false) e).go s.toks Q E h
end
section
open PySem.NumText
structure Hid2 (p : Prop) : Prop where
  out : p
theorem typeCall_int_2 (a b : Value) : checkTypeCall "int" ⟨[a, b], []⟩ = pure () := by kernel_rfl
theorem newCall_int_2 (a b : Value) : checkBuiltinCall "int.__new__" ⟨[.type "int", a, b], []⟩ = pure () := by kernel_rfl
theorem wp_text16 {M : Model} {A : Around} {E : Value → Shared → Prop} {s : Shared} {Q : Value → Shared → Prop} {v : Value} {text : List Nat} {n : Int}
    (hs : (text.takeWhile (· != 0)).length ≤ 640) (hr : (int_private% "readNumeral") 0 16 (text.takeWhile (· != 0)) = (int_private% "Numeral.value") n)
    (ha : ((text.takeWhile (· != 0)).length == text.length) = true) (h : Q (.int n s.toks) { s with toks := s.toks + 1 }) :
    wpAny M A ((int_private% "intFromText") v text 16) Q E s := by
  obtain ⟨hp, g, d, tk, os⟩ := s
  repeat (any_goals (first
    | assumption
    | (with_reducible refine wpAny_ite_true (decide_eq_true hs) ?_)
    | (with_reducible refine wpAny_ite_true (decide_eq_true ha) ?_)
    | wp_step))
  all_goals (try rw [hr])
  all_goals (try dsimp only)
  repeat (any_goals (first
    | assumption
    | (with_reducible refine wpAny_ite_true (decide_eq_true hs) ?_)
    | (with_reducible refine wpAny_ite_true (decide_eq_true ha) ?_)
    | wp_step))
theorem gives_int16 {x : Str} {u b : Tok} {n : Int} (hx : (x.cps.all (· < 128)) = true) (hs : (x.cps.toList.takeWhile (· != 0)).length ≤ 640) (hr : (int_private% "readNumeral") 0 16 (x.cps.toList.takeWhile (· != 0)) = (int_private% "Numeral.value") n)
    (ha : ((x.cps.toList.takeWhile (· != 0)).length == x.cps.toList.length) = true) : Gives (Builtin.«int.__new__» ⟨[.type "int", .str x u, .int 16 b], []⟩) (.int n) :=
  .of_wp fun M A E s Q h => by
    obtain ⟨hp, g, d, tk, os⟩ := s
    have f1 := F.conv_sub_int
    have f2 := F.madeHere_int
    have f6 : typeOf (.str x u) = pure (.type "str") := rfl
    have hk := Hid2.mk (And.intro hs (And.intro hr ha))
    have hx' := Hid2.mk hx
    clear hs hr hx ha
    repeat (any_goals (first
      | assumption
      | ((with_reducible show wpAny _ _ ((int_private% "intFromText") _ _ _) _ _ _); rw [if_pos hx'.out]; refine wp_text16 hk.out.1 hk.out.2.1 hk.out.2.2 ?_)
      | wp_step))
    all_goals first | exact ⟨_, rfl, h⟩ | skip
theorem call_int16 {prog : Program} {w : World} {A : Around} {E : Value → Shared → Prop} {s : Shared} {x : Str} {u b : Tok} {n : Int} {Q : Value → Shared → Prop} (hk : (x.cps.all (· < 128)) = true ∧ (x.cps.toList.takeWhile (· != 0)).length ≤ 640 ∧ (int_private% "readNumeral") 0 16 (x.cps.toList.takeWhile (· != 0)) = (int_private% "Numeral.value") n ∧
    ((x.cps.toList.takeWhile (· != 0)).length == x.cps.toList.length) = true) (h : Q (.int n s.toks) { s with toks := s.toks + 1 }) : wpAny (model prog w) A (call (.type "int") [.str x u, .int 16 b]) Q E s :=
  callType_new F.called_int F.newNe_int (typeCall_int_2 _ _) (newCall_int_2 _ _) (fun obj => F.args_object_init_3 obj _ _) F.entry_int_new (gives_int16 hk.1 hk.2.1 hk.2.2.1 hk.2.2.2).meets (show (Made.int n).post _ s from ⟨rfl, h⟩)
theorem int16_4 {prog : Program} {w : World} {A : Around} {E : Value → Shared → Prop} {s : Shared} {u b : Tok} {Q : Value → Shared → Prop} (h : Q (.int 4 s.toks) { s with toks := s.toks + 1 }) : wpAny (model prog w) A (call (.type "int") [.str (Str.ofString "4") u, .int 16 b]) Q E s :=
  call_int16 ⟨by decide +kernel, by decide +kernel, by kernel_rfl, by decide +kernel⟩ h
theorem int16_1 {prog : Program} {w : World} {A : Around} {E : Value → Shared → Prop} {s : Shared} {u b : Tok} {Q : Value → Shared → Prop} (h : Q (.int 1 s.toks) { s with toks := s.toks + 1 }) : wpAny (model prog w) A (call (.type "int") [.str (Str.ofString "1") u, .int 16 b]) Q E s :=
  call_int16 ⟨by decide +kernel, by decide +kernel, by kernel_rfl, by decide +kernel⟩ h
end
section
noncomputable def chs (l : List (Nat × Tok)) : List Value := l.map fun p => .str ⟨#[p.1]⟩ p.2
theorem push_chs {l : List (Nat × Tok)} {c : Nat} {t : Tok} : (chs l).toArray.push (.str ⟨#[c]⟩ t) = (chs (l ++ [(c, t)])).toArray := by simp [chs]
theorem glued_chs : ∀ (l : List Nat), Builtin.Str.glued (Str.ofString "") (l.map fun c => (⟨#[c]⟩ : Str)) = ⟨l.toArray⟩ := by
  intro l
  rw [StrLaws.glued_eq_join]
  induction l with
  | nil => rfl
  | cons c r ih =>
    cases r with
    | nil => rfl
    | cons d r =>
      show (⟨#[c]⟩ : Str) ++ Str.ofString "" ++ Str.join (Str.ofString "") ((d :: r).map fun c => (⟨#[c]⟩ : Str)) = _
      rw [ih]
      have e : (Str.ofString "") = ⟨#[]⟩ := by decide +kernel
      rw [e]
      show (⟨(#[c] ++ #[]) ++ (d :: r).toArray⟩ : Str) = _
      simp
theorem chs_carried : ∀ (l : List (Nat × Tok)), CarriedAll (chs l) ((l.map (·.1)).map fun c => PyData.str ⟨#[c]⟩)
  | [] => .nil
  | p :: l => .cons (.str _ _) (chs_carried l)
theorem join_chs {prog : Program} {w : World} {A : Around} {E : Value → Shared → Prop} {s : Shared} {t : Tok} {Q : Value → Shared → Prop} {D : Addr} {l : List (Nat × Tok)} {h₀ : Heap} {L : Addr} {news : Led} {n : Nat} (N : News h₀ L s.heap news) (hm : (D, W.listOf (chs l).toArray n) ∈ news) (hn : l.length ≤ 5000)
    (h : ∀ t' k, Q (.str ⟨(l.map (·.1)).toArray⟩ t') { s with toks := k }) : wpAny (model prog w) A (call (.builtin "str.join") [.str (PySem.Str.ofString "") t, .ref D]) Q E s := by
  refine KT.join_1 (l := l.map (·.1)) (g := fun c => (⟨#[c]⟩ : Str)) (News.isList N hm) (chs_carried l) (fun _ _ => rfl) (by rw [List.length_map]; omega) fun t' k _ => ?_
  have e : PySem.Txt.join (PySem.Str.ofString "") ((l.map (·.1)).map fun c => (⟨#[c]⟩ : Str)) = ⟨(l.map (·.1)).toArray⟩ := glued_chs _
  rw [e]
  exact h t' k
/-- i signs alike -/
noncomputable def bl (f : Nat → Tok) (i : Nat) : List (Nat × Tok) := (List.range i).map fun q => (98, f q)
theorem bl_snoc {f : Nat → Tok} {i : Nat} {t : Tok} : bl f i ++ [(98, t)] = bl (fun q => if q < i then f q else t) (i + 1) := by
  unfold bl
  rw [List.range_succ, List.map_append]
  congr 1
  · refine List.map_congr_left fun q hq => ?_
    show _ = (98, if q < i then f q else t)
    rw [if_pos (List.mem_range.mp hq)]
  · simp
theorem bl_fst {f : Nat → Tok} {i : Nat} : (bl f i).map (·.1) = List.replicate i 98 := by
  unfold bl
  rw [List.map_map]
  show (List.range i).map (fun _ => 98) = _
  exact (List.map_const' ..).trans (by rw [List.length_range])
theorem bl_len {f : Nat → Tok} {i : Nat} : (bl f i).length = i := by simp [bl]
theorem chs_len {l : List (Nat × Tok)} : (chs l).length = l.length := by simp [chs]
/-- what is shown behind the signs alike, up to the end: in signs, in places -/
noncomputable def Shown (x : Str) (a : Int) (ws : List Nat) (e : Int) : Prop :=
  (AtC x a 34 ∧ ws = [] ∧ e = 1) ∨ (AtC x a 122 ∧ AtC x (a + 1) 34 ∧ ws = [122] ∧ e = 2) ∨ (AtC x a 92 ∧ AtC x (a + 1) 110 ∧ AtC x (a + 1 + 1) 34 ∧ ws = [10] ∧ e = 3) ∨
    (AtC x a 92 ∧ AtC x (a + 1) 120 ∧ AtC x (a + 1 + 1) 52 ∧ AtC x (a + 1 + 1 + 1) 49 ∧ AtC x (a + 1 + 1 + 1 + 1) 34 ∧ ws = [65] ∧ e = 5)
theorem push_bl {f : Nat → Tok} {i : Nat} {t : Tok} : (chs (bl f i)).toArray.push (.str (Str.ofString "b") t) = (chs (bl (fun q => if q < i then f q else t) (i + 1))).toArray := by
  rw [show Str.ofString "b" = (⟨#[98]⟩ : Str) by decide +kernel, push_chs, bl_snoc]
theorem push_z {l : List (Nat × Tok)} {t : Tok} : (chs l).toArray.push (.str (Str.ofString "z") t) = (chs (l ++ [(122, t)])).toArray := by
  rw [show Str.ofString "z" = (⟨#[122]⟩ : Str) by decide +kernel, push_chs]
theorem push_A {l : List (Nat × Tok)} {t : Tok} : (chs l).toArray.push (.str (Str.ofString "A") t) = (chs (l ++ [(65, t)])).toArray := by
  rw [show Str.ofString "A" = (⟨#[65]⟩ : Str) by decide +kernel, push_chs]
theorem push_n {l : List (Nat × Tok)} {t : Tok} : (chs l).toArray.push (.str (Str.ofString "\n") t) = (chs (l ++ [(10, t)])).toArray := by
  rw [show Str.ofString "\n" = (⟨#[10]⟩ : Str) by decide +kernel, push_chs]
theorem bl_app {f : Nat → Tok} {i c : Nat} {t : Tok} : (bl f i ++ [(c, t)]).map (·.1) = List.replicate i 98 ++ [c] := by rw [List.map_append, bl_fst]; rfl
theorem bl_app0 {f : Nat → Tok} {i : Nat} : (bl f i).map (·.1) = List.replicate i 98 ++ [] := by rw [bl_fst, List.append_nil]
theorem bl_len1 {f : Nat → Tok} {i c : Nat} {t : Tok} : (bl f i ++ [(c, t)]).length = i + 1 := by rw [List.length_append, bl_len]; rfl
theorem Shown.close {x : Str} {a e : Int} {ws : List Nat} (h : Shown x a ws e) : AtC x (a + (e - 1)) 34 := by
  rcases h with ⟨h, rfl, rfl⟩ | ⟨-, h, rfl, rfl⟩ | ⟨-, -, h, rfl, rfl⟩ | ⟨-, -, -, -, h, rfl, rfl⟩
  · rw [show a + (1 - 1) = a by omega]; exact h
  · rw [show a + (2 - 1) = a + 1 by omega]; exact h
  · rw [show a + (3 - 1) = a + 1 + 1 by omega]; exact h
  · rw [show a + (5 - 1) = a + 1 + 1 + 1 + 1 by omega]; exact h
theorem Shown.few {x : Str} {a e : Int} {ws : List Nat} (h : Shown x a ws e) : ws.length ≤ 1 := by
  rcases h with ⟨_, rfl, _⟩ | ⟨_, _, rfl, _⟩ | ⟨_, _, _, rfl, _⟩ | ⟨_, _, _, _, _, rfl, _⟩ <;> simp
/-- one turn or none, then the last -/
theorem WN.mid {prog : Program} {w : World} {A : Around} {env : Env} {test : PySem.Expr} {body : List Stmt} {Q : Flow → Shared → Prop} {E : Value → Shared → Prop} {g h : Heap} {L : Addr} {o s : Shared} {m₀ : Str → Option Value} {σ : Type} {led : σ → Led} {ps : σ → List (Str × Value)} {stored : List Str} {u : Str → Option Value} {k : Nat} (F : Fr g L h (fun z => if stored.contains z = true then u z else m₀ z)) (hs : s = SH o h k)
    (H : TE g L o led ps stored m₀ s ∨ WT prog w A env test body Q E (TE g L o led ps stored m₀) s)
    (K : ∀ (P : Shared → Prop) (c : σ) (u : Str → Option Value) (h : Heap) (tk : Nat), Fr g L h (kstB (fun z => if stored.contains z then u z else m₀ z) (ps c)) → News g L h (led c) → WT prog w A env test body Q E P (SH o h tk)) : WN prog w A env test body Q E 2 s := by
  have key : ∀ (P : Shared → Prop) s, TE g L o led ps stored m₀ s → WT prog w A env test body Q E P s := by
    rintro P s ⟨c, h, k, m, rfl, F, N, h1, h2⟩
    exact K P c m h k (ksw_fr h1 h2 F) N
  rcases H with H | H
  · exact WN.turn (key _ s H)
  · exact WN.turn (H.mono fun s q => WN.turn (key _ s q))
theorem Fresh.re {a c : Addr} {ob ob' : Obj} {r : Led} (h : Fresh a ((c, ob) :: r)) : ∀ q ∈ (c, ob') :: r, q.1 ≠ a := fun q hq =>
  by
  rcases List.mem_cons.mp hq with rfl | e
  · exact h.go (c, ob) (.head r)
  · exact h.go _ (.tail _ e)
/-- a turn of a for that stores its own name alone -/
structure TurnB (h₀ : Heap) (L : Addr) (s₁ : Shared) (led : Led) (x : Str) (m₀ : Str → Option Value) (s₂ : Shared) : Prop where
  go : ∃ h' tk m', s₂ = { s₁ with heap := h', toks := tk } ∧ Fr h₀ L h' m' ∧ News h₀ L h' led ∧ (∀ z, z ≠ x → m' z = m₀ z)
section
variable {prog : Program} {w : World} {A : Around} {E : Value → Shared → Prop} {s : Shared} {env : Env} {h₀ : Heap} {x : Str} {body : List Stmt} {Q : Flow → Shared → Prop} {target : PySem.Expr} {I : Addr} {news : Led} {m₀ : Str → Option Value}
theorem fr_at {L : Addr} {h : Heap} {m : Str → Option Value} (F : Fr h₀ L h m) (hm : ∀ z, z ≠ x → m z = m₀ z) : Fr h₀ L h (fun z => if z = x then m x else m₀ z) := by
  rw [show (fun z => if z = x then m x else m₀ z) = m from funext fun z => by by_cases e : z = x <;> simp [e, hm]]
  exact F
theorem items_alike (R : Value → Prop) (hoff : ∀ p ∈ news, p.1 ≠ I)
    (turn : ∀ v u h tk o, R v → Fr h₀ env.locals h (fun z => if z = x then u else m₀ z) → News h₀ env.locals h ((I, o) :: news) →
      wpAny (model prog w) A (assign target env v) (fun _ s₂ => wpAny (model prog w) A (execs body env) (fun f s₃ => match f with
        | .ret v => Q (.ret v) s₃
        | .brk => Q .next s₃
        | _ => TurnB h₀ env.locals { s with heap := h, toks := tk } ((I, o) :: news) x m₀ s₃) E s₂) E { s with heap := h, toks := tk })
    (fin : ∀ u h tk, Fr h₀ env.locals h (fun z => if z = x then u else m₀ z) → News h₀ env.locals h news → Q .next { s with heap := h, toks := tk }) :
    ∀ (l : List Value) (m : Str → Option Value), (∀ v ∈ l, R v) → (∀ z, z ≠ x → m z = m₀ z) → ItemsRest prog w A E h₀ env target body Q s [(I, "tuple_iterator")] [] (l.map .val) m news
  | [], m, _, hm => ItemsRest.zero fun h tk F N => fin _ h tk (fr_at F hm) N
  | v :: l, m, hR, hm => ItemsRest.val fun h tk F => AllObj.cons fun o _ => AllObj.nil fun N =>
    wpAny_mono (turn v _ h tk o (hR v (.head _)) (fr_at F hm) N) (fun _ s₂ q => wpAny_mono q (fun f s₃ q => by
      have key : TurnB h₀ env.locals { s with heap := h, toks := tk } ((I, o) :: news) x m₀ s₃ → UnrEndW h₀ env.locals { s with heap := h, toks := tk } [(I, o)] (fun m' n' => SubL [] n' ∧ ItemsRest prog w A E h₀ env target body Q s [(I, "tuple_iterator")] [] (l.map .val) m' n') s₃ := by
        rintro ⟨h', tk', m', e, F', N', hm'⟩
        exact ⟨h', tk', m', news, e, F', N', fun p hp q hq => by rw [List.mem_singleton.mp hq]; exact hoff p hp, trivial, items_alike R hoff turn fin l m' (fun v hv => hR v (.tail _ hv)) hm'⟩
      cases f with
      | ret v => exact q
      | brk => exact q
      | next => exact key q
      | cont => exact key q) fun _ _ e => e) fun _ _ e => e
theorem range_alike {a : Int} {n : Nat} (hoff : ∀ p ∈ news, p.1 ≠ I)
    (turn : ∀ i t h tk o, i < n → Fr h₀ env.locals h (fun z => if z = x then some (.int (a + (i : Nat)) t) else m₀ z) → News h₀ env.locals h ((I, o) :: news) →
      wpAny (model prog w) A (execs body env) (fun f s₃ => match f with
        | .ret v => Q (.ret v) s₃
        | .brk => Q .next s₃
        | _ => TurnB h₀ env.locals { s with heap := h, toks := tk } ((I, o) :: news) x m₀ s₃) E { s with heap := h, toks := tk })
    (fin : ∀ u h tk, Fr h₀ env.locals h (fun z => if z = x then u else m₀ z) → News h₀ env.locals h news → Q .next { s with heap := h, toks := tk }) :
    ∀ (k i : Nat) (m : Str → Option Value), i + k = n → (∀ z, z ≠ x → m z = m₀ z) → RangeRest prog w A E h₀ env x body Q s I a n k i m news
  | 0, i, m, _, hm => RangeRest.zero fun h tk F N => fin _ h tk (fr_at F hm) N
  | k + 1, i, m, hi, hm => RangeRest.succ fun t h tk F N =>
    wpAny_mono (turn i t h tk _ (by omega) (by
      have e : (fun y => if y = x then some (Value.int (a + (i : Int)) t) else m y) = (fun z => if z = x then some (.int (a + (i : Nat)) t) else m₀ z) := funext fun z => by by_cases e : z = x <;> simp [e, hm]
      rw [← e]
      exact F) N) (fun f s₃ q => by
      have key : ∀ o, TurnB h₀ env.locals { s with heap := h, toks := tk } ((I, o) :: news) x m₀ s₃ → UnrEnd h₀ env.locals { s with heap := h, toks := tk } I o (RangeRest prog w A E h₀ env x body Q s I a n k (i + 1)) s₃ := by
        rintro o ⟨h', tk', m', e, F', N', hm'⟩
        exact ⟨h', tk', m', news, e, F', N', hoff, range_alike hoff turn fin k (i + 1) m' (by omega) hm'⟩
      cases f with
      | ret v => exact q
      | brk => exact q
      | next => exact key _ q
      | cont => exact key _ q) fun _ _ e => e
end
section
variable {prog : Program} {w : World} {A : Around} {E : Value → Shared → Prop} {s : Shared} {h₀ : Heap} {L : Addr} {m : Str → Option Value} {news : Led} {a b : Int} {t u : Tok} {Q : Value → Shared → Prop}
theorem max_ge (hh : A.handled = none) (F : Fr h₀ L s.heap m) (N : News h₀ L s.heap news) (hc : b ≤ a) (h : ∀ h' tk, Fr h₀ L h' m → News h₀ L h' news → Q (.int a t) { s with heap := h', toks := tk }) :
    wpAny (model prog w) A (call (.builtin "max") [.int a t, .int b u]) Q E s :=
  max_two_ints hh fun h' tk hk => by rw [if_neg (by omega)]; exact h h' tk (F.grownK hk) (N.grown hk)
theorem min_le (hh : A.handled = none) (F : Fr h₀ L s.heap m) (N : News h₀ L s.heap news) (hc : a ≤ b) (h : ∀ h' tk, Fr h₀ L h' m → News h₀ L h' news → Q (.int a t) { s with heap := h', toks := tk }) :
    wpAny (model prog w) A (call (.builtin "min") [.int a t, .int b u]) Q E s :=
  min_two_ints hh fun h' tk hk => by rw [if_neg (by omega)]; exact h h' tk (F.grownK hk) (N.grown hk)
end
theorem Fresh.add {a p : Addr} {ob : Obj} {r : Led} (h1 : p ≠ a) (h : Fresh a r) : Fresh a ((p, ob) :: r) := ⟨fun q hq => by
  rcases List.mem_cons.mp hq with rfl | e
  · exact h1
  · exact h.go _ e⟩
theorem news_rot {h₀ h : Heap} {L : Addr} {a b c d e : Addr × Obj} {tl : Led} (N : News h₀ L h (a :: b :: c :: d :: e :: tl)) : News h₀ L h (c :: d :: e :: a :: b :: tl) := fun q hq => N q (by
  simp only [List.mem_cons] at hq ⊢
  rcases hq with h | h | h | h | h | h <;> simp [h])
end
local macro_rules | `(tactic| walk_at $s:str) => `(tactic| ((fail_if_success plain_pass); k_extra $(Lean.Syntax.mkStrLit ("w " ++ s.getString))))
local macro_rules | `(tactic| k_all) => `(tactic| k_extra "mac k_all")
local macro_rules | `(tactic| k_enter) => `(tactic| k_extra "mac k_enter")
local macro_rules | `(tactic| k_mem) => `(tactic| k_extra "mac k_mem")
local macro_rules | `(tactic| k_ne) => `(tactic| k_extra "mac k_ne")
local macro_rules | `(tactic| ktr_rel) => `(tactic| k_extra "mac ktr_rel")
local macro_rules | `(tactic| ktr_unf) => `(tactic| k_extra "mac ktr_unf")
local macro_rules | `(tactic| tb_start) => `(tactic| k_extra "mac tb_start")
local macro_rules | `(tactic| ktr_room) => `(tactic| k_extra "mac ktr_room")
local macro_rules | `(tactic| ktr_units) => `(tactic| k_extra "mac ktr_units")
theorem rows0 : True := by
  k_with "D mem" => (with_reducible first | exact mem0 | exact mem1 | exact mem2 | exact mem3 | exact mem4 | exact mem5 | exact mem6 | exact mem7 | (refine' memS ?hzmS; (case hzmS => k_extra "D mem")))
  k_with "D lk" => (first | (with_reducible exact lkHit) | (with_reducible refine' lkMiss ?hzlA ?hzlB; (case hzlA => kernel_rfl); (case hzlB => k_extra "D lk")) | (with_reducible refine' lkRev ?hzlA ?hzlB; (case hzlA => with_reducible assumption); (case hzlB => k_extra "D mem")) | eq_refl)
  k_with "D name" => ((with_reducible show Ev _ _ (PySem.Expr.Name _ _) _ _ _); (with_reducible rename EnvOk _ _ _ => hEO9); first
  | (refine' Ev.locN hEO9 ?hznM ?hznF ?hznV; (case hznM => k_extra "D mem"); (case hznF => k_asm); (case hznV => k_extra "D lk"))
  | (refine' Ev.glbN (K := Mine.K _) hEO9 ?hznM ?hznF ?hznX ?hznT ?hznV; (case hznM => k_extra "D mem"); (case hznF => k_asm); (case hznX => k_asm); (case hznT => k_asm); (case hznV => with_reducible first | exact gf_need | exact gf_need_list | exact gf_need_row | exact gf_applied | exact gf_call_of_one | exact gf_bounded | exact gf_is_number | exact gf_position_of | exact gf_refused | exact gf_scan_dollar | exact gf_scan_sign | exact gf_scan_action | exact gf_joined | exact gf_parse_action | exact gf_Frame | exact gf_Machine | exact gf_Cursor | exact gf_Part | exact gf_ActionReader | exact gf_Position | exact gf_ToolError | exact gf_ActionError | exact gf_MachineError | exact gf_law_draw | exact gf_law_ran | exact gf_law_list_right | exact gf_law_text_right))
  | (refine' Ev.celN hEO9 ?hznM ?hznN ?hznC ?hznO ?hznV; (case hznM => k_extra "D mem"); (case hznN => k_asm); (case hznC => eq_refl); (case hznO => k_mem); (case hznV => first | with_reducible assumption | assumption))
  | (refine' Ev.freN hEO9 ?hznM ?hznN ?hznC ?hznO ?hznV ?hznD; (case hznM => k_extra "D mem"); (case hznN => k_asm); (case hznC => eq_refl); (case hznO => k_mem); (case hznV => first | with_reducible assumption | assumption); (case hznD => kernel_rfl))
  | (refine' Ev.glbN (K := Mine.K _) hEO9 ?hznM ?hznF ?hznX ?hznT ?hznV; (case hznM => k_extra "D mem"); (case hznF => k_asm); (case hznX => k_asm); (case hznT => k_asm); (case hznV => exact ⟨by k_is⟩)))
  k_with "D blt" => ((with_reducible rename EnvOk _ _ _ => hEO9); refine' Ev.bltN (K := Mine.K _) hEO9 ?hznM ?hznF ?hznX ?hznT ?hznN ?hznV ?hznD; (case hznM => k_extra "D mem"); (case hznF => k_asm); (case hznX => k_asm); (case hznT => k_asm); (case hznN => k_is); (case hznV => boot_fast); (case hznD => kernel_rfl))
  k_with "mac k_all" => (first | with_reducible assumption | assumption)
  k_with "mac k_enter" => (first | (refine' code_defE ?hzk1 ?hzk2 ?hzk3 ?hzk4 ?hzk5 ?hzkA ?hzkF ?hzkK ?hzk6 ?hzk7 ?hzk8 ?hzk9 ?hzkB ?hzc2 ?hzc3 ?hzc4 ?hzc5 ?_; (case hzkA => eq_refl); (case hzkF => eq_refl); (case hzkK => first | eq_refl | assumption); (case hzk1 => k_asm); (case hzk2 => k_asm); (case hzk3 => k_asm); (case hzk4 => k_asm); (case hzk5 => k_asm); (case hzk6 => k_is); (case hzk7 => k_is); (case hzk8 => ktr_room); (case hzk9 => first | exact BindsTo.of_eq rfl | exact binds_K (by k_in) rfl (by k_is) rfl rfl rfl); (case hzc5 => eq_refl); (case hzkB => exact locs rfl); (case hzc2 => eq_refl); (case hzc3 => eq_refl); (case hzc4 => eq_refl); k_whole; intro g' L' h' FG' F' N' B' X' T' fE'; (try dsimp only); (try k_lift B'); (try k_fold)) | (refine' code_defCE ?hzk1 ?hzk2 ?hzk3 ?hzk4 ?hzk5 ?hzkA ?hzkF ?hzkK ?hzk6 ?hzk7 ?hzk8 ?hzk9 ?hzkB ?hzkD ?hzc2 ?hzc3 ?hzc4 ?_; (case hzkA => eq_refl); (case hzkF => eq_refl); (case hzkK => first | eq_refl | assumption); (case hzk1 => k_asm); (case hzk2 => k_asm); (case hzk3 => k_asm); (case hzk4 => k_asm); (case hzk5 => k_asm); (case hzk6 => k_is); (case hzk7 => k_is); (case hzk8 => ktr_room); (case hzk9 => first | exact BindsTo.of_eq rfl | exact binds_K (by k_in) rfl (by k_is) rfl rfl rfl); (case hzkB => eq_refl); (case hzkD => decide +kernel); (case hzc2 => eq_refl); (case hzc3 => eq_refl); (case hzc4 => eq_refl); k_whole; intro g' L' h' tk' cells' FG' F' N' Y' B' X' T' l1 fE'; (try k_lt l1); k_cells Y'; (try simp only [List.cons_append, List.nil_append] at N'); (try dsimp only); (try k_lift B'); (try k_fold)))
  k_with "mac k_mem" => (first | with_reducible assumption | k_extra "D mem" | assumption)
  k_with "w call builtin:len" => ((k_here; (with_reducible show wpAny _ _ (call (Value.builtin "len") [Value.ref _]) _ _ _); k_dflt (refine' kst_len ?hzk1 ?hzk2 ?hzk3 ?hzk4 ?_; (case hzk1 => k_asm); (case hzk2 => k_memK); (case hzk3 => first | with_reducible assumption | assumption); (case hzk4 => omega); k_whole)))
  k_with "w call builtin:len" => ((k_here; (with_reducible show wpAny _ _ (call (Value.builtin "len") [Value.ref _]) _ _ _); k_dflt (refine' tlen ?hzk1 ?hzk2 ?hzk3 ?hzk4 ?_; (case hzk1 => k_asm); (case hzk2 => k_mem); (case hzk3 => first | with_reducible assumption | assumption); (case hzk4 => omega); k_whole)))
  k_with "w call type:tuple" => ((k_here; (with_reducible show wpAny _ _ (call (Value.type _) [Value.ref _]) _ _ _); k_dflt (refine' kde_tupleOf ?hzk1 ?hzk2 ?hzk3 ?hzk4 ?hzk5 ?_; (case hzk1 => k_asm); (case hzk2 => k_asm); (case hzk3 => exact News.isList (by k_asm) (by k_mem)); (case hzk5 => exact tl_of); (case hzk4 => ((try simp only [List.size_toArray]); omega)); k_whole); intro D' h' F' N' l1; (try k_lt l1); (try k_sweep)))
  k_with "w compareOp NotEq ref ref" => ((k_here; (with_reducible show wpAny _ _ (compareOp CmpOp.NotEq (Value.ref _) (Value.ref _)) _ _ _); k_dflt (refine' ne_len ?hzk1 ?hzk2 ?hzk3 ?hzk4 ?hzk5 ?_; (case hzk1 => k_asm); (case hzk2 => k_mem); (case hzk3 => k_mem); (case hzk4 => eq_refl); (case hzk5 => ktr_units); k_whole)))
  k_with "w compareOp Eq ref ref" => ((k_here; (with_reducible show wpAny _ _ (compareOp CmpOp.Eq (Value.ref _) (Value.ref _)) _ _ _); k_dflt (first | (refine' eq_nil ?hzk1 ?hzk2 ?hzk3 ?hzk5 ?_; (case hzk1 => k_asm); (case hzk2 => k_mem); (case hzk3 => k_mem); (case hzk5 => ktr_units); k_whole) | (refine' eq_len ?hzk1 ?hzk2 ?hzk3 ?hzk4 ?hzk5 ?_; (case hzk1 => k_asm); (case hzk2 => k_mem); (case hzk3 => k_mem); (case hzk4 => eq_refl); (case hzk5 => ktr_units); k_whole))))
  k_with "mac k_ne" => (((with_reducible rename LCg.Off3 _ _ _ _ => hO9); refine neN ?_; (try dsimp only); first | exact (off_I hO9 (by k_mem)).symm | exact (off_C hO9 (by k_mem)).symm | exact (off_D hO9 (by k_mem)).symm | exact off_I hO9 (by k_mem) | exact off_C hO9 (by k_mem) | exact off_D hO9 (by k_mem) | omega))
  k_with "mac ktr_rel" => (first
  | ((fail_if_success (with_reducible rename EnvOk _ _ _ => hEO9)); refine' Ev.cel ?hzeE ?hzeN ?hzeC ?hzeM ?hzeV ?hzeX ?hzeD; (case hzeE => first | with_reducible assumption | assumption); (case hzeX => kernel_rfl!); (case hzeN => k_asm); (case hzeC => eq_refl); (case hzeM => k_mem); (case hzeV => first | with_reducible assumption | assumption); (case hzeD => kernel_rfl))
  | ((fail_if_success (with_reducible rename EnvOk _ _ _ => hEO9)); refine' Ev.fre ?hzeE ?hzeN ?hzeC ?hzeM ?hzeV ?hzeX ?hzeD ?hzeF; (case hzeE => first | with_reducible assumption | assumption); (case hzeX => kernel_rfl!); (case hzeN => k_asm); (case hzeC => eq_refl); (case hzeM => k_mem); (case hzeV => first | with_reducible assumption | assumption); (case hzeD => kernel_rfl); (case hzeF => kernel_rfl)))
  k_with "mac ktr_rel" => (first
  | exact Ev.str | exact Ev.int | exact Ev.none | exact Ev.bool
  | k_extra "D name"
  | ((fail_if_success (with_reducible rename EnvOk _ _ _ => hEO9)); refine' Ev.loc ?hzeF ?hzeE ?hzeV ?hzeX ?hzeD; (case hzeF => k_asm); (case hzeE => first | with_reducible assumption | assumption); (case hzeX => kernel_rfl!); (case hzeV => eq_refl); (case hzeD => kernel_rfl))
  | (refine' Ev.attr (K := Mine.K _) ?hzeF ?hzeX ?hzeN ?hzeH ?hzex ?hzed ?hzea ?hzeg ?hzeh; (case hzeF => k_asm); (case hzeX => k_asm); (case hzeH => k_extra "mac ktr_rel"); (case hzeN => k_asm); (case hzex => k_mem); (case hzed => k_mem); (case hzea => with_reducible first | exact af_684_values | exact af_684_names | exact af_684_control | exact af_684_own | exact af_684_stack | exact af_684_steps | exact af_684_most | exact af_684_is_left | exact af_760_most | exact af_234_text | exact af_234_at | exact af_261_kind | exact af_261_worth | exact af_261_offset | exact af_444_text | exact af_444_parts | exact af_444_spot | exact af_444_deep | exact af_444_below | exact af_46_offset | exact af_46_line | exact af_46_column); (case hzeg => k_get); (case hzeh => k_handed))
  | ((fail_if_success (with_reducible rename EnvOk _ _ _ => hEO9)); refine' Ev.glb (K := Mine.K _) ?hzeF ?hzeE ?hzeX ?hzeT ?hzeV ?hzex ?hzeD; (case hzeF => k_asm); (case hzeE => first | with_reducible assumption | assumption); (case hzex => eq_refl); (case hzeX => k_asm); (case hzeT => k_asm); (case hzeV => first | (with_reducible first | exact gf_need | exact gf_need_list | exact gf_need_row | exact gf_applied | exact gf_call_of_one | exact gf_bounded | exact gf_is_number | exact gf_position_of | exact gf_refused | exact gf_scan_dollar | exact gf_scan_sign | exact gf_scan_action | exact gf_joined | exact gf_parse_action | exact gf_Frame | exact gf_Machine | exact gf_Cursor | exact gf_Part | exact gf_ActionReader | exact gf_Position | exact gf_ToolError | exact gf_ActionError | exact gf_MachineError | exact gf_law_draw | exact gf_law_ran | exact gf_law_list_right | exact gf_law_text_right) | exact ⟨by k_is⟩); (case hzeD => kernel_rfl))
  | (refine' Ev.cmp ?hzeL ?hzeR ?hzeC ?hzeM; (case hzeL => k_extra "mac ktr_rel"); (case hzeR => k_extra "mac ktr_rel"); (case hzeC => k_extra "mac ktr_unf"); (case hzeM => eq_refl))
  | (refine' Ev.add ?hzeL ?hzeR; (case hzeL => k_extra "mac ktr_rel"); (case hzeR => k_extra "mac ktr_rel"))
  | (refine' Ev.sub ?hzeL ?hzeR; (case hzeL => k_extra "mac ktr_rel"); (case hzeR => k_extra "mac ktr_rel"))
  | exact EvL.nil
  | (refine' EvL.cons ?hzeL ?hzeR ?hzeS; (case hzeL => k_extra "mac ktr_rel"); (case hzeR => k_extra "mac ktr_rel"); (case hzeS => eq_refl)))
  k_with "mac ktr_unf" => (first
  | (refine' CmpIs.eqS (r := true) ?hzeC; (case hzeC => kernel_rfl!)) | (refine' CmpIs.eqS (r := false) ?hzeC; (case hzeC => kernel_rfl!))
  | (refine' CmpIs.neS (r := true) ?hzeC; (case hzeC => kernel_rfl!)) | (refine' CmpIs.neS (r := false) ?hzeC; (case hzeC => kernel_rfl!))
  | exact CmpIs.isN | exact CmpIs.isR | exact CmpIs.isS | exact CmpIs.notN | exact CmpIs.notR | exact CmpIs.notS | exact CmpIs.notI
  | (refine' CmpIs.ltI ?hzeC; (case hzeC => first | exact decide_eq_true (by with_reducible assumption) | exact decide_eq_true (by omega) | exact decide_eq_false (by omega) | rfl))
  | (refine' CmpIs.leI ?hzeC; (case hzeC => first | exact decide_eq_true (by with_reducible assumption) | exact decide_eq_true (by omega) | exact decide_eq_false (by omega) | rfl))
  | (refine' CmpIs.gtI ?hzeC; (case hzeC => first | exact decide_eq_true (by with_reducible assumption) | exact decide_eq_true (by omega) | exact decide_eq_false (by omega) | rfl))
  | (refine' CmpIs.geI ?hzeC; (case hzeC => first | exact decide_eq_true (by with_reducible assumption) | exact decide_eq_true (by omega) | exact decide_eq_false (by omega) | rfl))
  | (refine' CmpIs.inS (r := true) ?hzeC; (case hzeC => kernel_rfl!)) | (refine' CmpIs.inS (r := false) ?hzeC; (case hzeC => kernel_rfl!))
  | (refine' CmpIs.ninS (r := true) ?hzeC; (case hzeC => kernel_rfl!)) | (refine' CmpIs.ninS (r := false) ?hzeC; (case hzeC => kernel_rfl!)))
  k_with "mac tb_start" => (first
  | (refine' Tr.cmp ?hzeL ?hzeR ?hzeC ?hzeM; (case hzeL => k_extra "mac ktr_rel"); (case hzeR => k_extra "mac ktr_rel"); (case hzeC => k_extra "mac ktr_unf"); (case hzeM => eq_refl))
  | (refine' Tr.notT ?hzeL; (case hzeL => k_extra "mac tb_start"))
  | (refine' Tr.notF ?hzeL; (case hzeL => k_extra "mac tb_start"))
  | (refine' Tr.not ?hzeL; (case hzeL => k_extra "mac tb_start"))
  | (refine' TrL.tr ?hzeL; (case hzeL => k_extra "mac tb_start"))
  | exact TrL.andN | exact TrL.orN
  | (refine' TrL.andT ?hzeL ?hzeR; (case hzeL => k_extra "mac tb_start"); (case hzeR => k_extra "mac tb_start"))
  | (refine' TrL.andF ?hzeL; (case hzeL => k_extra "mac tb_start"))
  | (refine' TrL.orF ?hzeL ?hzeR; (case hzeL => k_extra "mac tb_start"); (case hzeR => k_extra "mac tb_start"))
  | (refine' TrL.orT ?hzeL; (case hzeL => k_extra "mac tb_start"))
  | (refine' Tr.boolV ?hzeL ?hzeP; (case hzeL => k_extra "mac ktr_rel"); (case hzeP => exact fun _ => rfl)))
  k_with "w eval Name" => ((k_here; k_dflt (refine' @Ev.use _ _ _ _ _ _ _ _ _ _ _ _ ?hzevH ?_; (case hzevH => first | k_extra "mac ktr_rel" | k_extra "D blt"); k_whole)))
  k_with "w eval Attribute Name" => ((k_here; k_dflt (refine' @Ev.use _ _ _ _ _ _ _ _ _ _ _ _ ?hzevH ?_; (case hzevH => k_extra "mac ktr_rel"); k_whole)))
  k_with "w eval Constant str" => ((k_here; k_dflt (refine' @Ev.use _ _ _ _ _ _ _ _ _ _ _ _ ?hzevH ?_; (case hzevH => k_extra "mac ktr_rel"); k_whole)))
  k_with "w eval Constant int" => ((k_here; k_dflt (refine' @Ev.use _ _ _ _ _ _ _ _ _ _ _ _ ?hzevH ?_; (case hzevH => k_extra "mac ktr_rel"); k_whole)))
  k_with "w eval Compare" => ((k_here; k_dflt (refine' @Ev.use _ _ _ _ _ _ _ _ _ _ _ _ ?hzevH ?_; (case hzevH => k_extra "mac ktr_rel"); k_whole)))
  k_with "w eval BinOp" => ((k_here; k_dflt (refine' @Ev.use _ _ _ _ _ _ _ _ _ _ _ _ ?hzevH ?_; (case hzevH => k_extra "mac ktr_rel"); k_whole)))
  k_with "w isTrue Compare" => ((k_here; k_dflt (refine' @Tr.use _ _ _ _ _ _ _ _ _ _ _ _ ?hzevH ?_; (case hzevH => k_extra "mac tb_start"); k_whole)))
  k_with "w isTrue BoolOp" => ((k_here; k_dflt (refine' @Tr.use _ _ _ _ _ _ _ _ _ _ _ _ ?hzevH ?_; (case hzevH => k_extra "mac tb_start"); k_whole)))
  k_with "w isTrue UnaryOp" => ((k_here; k_dflt (refine' @Tr.use _ _ _ _ _ _ _ _ _ _ _ _ ?hzevH ?_; (case hzevH => k_extra "mac tb_start"); k_whole)))
  k_with "w isTrue" => ((fail_if_success k_extra "off top"); k_dflt (refine' @isTrue_plain _ _ _ _ _ _ _ _ ?_ ?hzaH; (case hzaH => eq_refl)))
  k_with "w isTrue" => ((k_here; k_dflt (refine' @Tr.use _ _ _ _ _ _ _ _ _ _ _ _ ?hzevH ?_; (case hzevH => k_extra "mac tb_start"); k_whole)))
  k_with "w execs cons" => ((k_here; with_reducible refine xs_one ?_))
  k_with "w exec If" => ((k_here; k_dflt (refine' @xs_if _ _ _ _ _ _ _ _ _ _ _ _ _ _ _ ?hzevH ?_; (case hzevH => k_extra "mac tb_start"); (with_reducible first | refine XB.t ?_ | refine XB.f ?_); k_whole)))
  k_with "w exec Assign" => ((fail_if_success k_extra "off top"); (with_reducible show wpAny _ _ (exec (Stmt.Assign [PySem.Expr.Name _ _] _ _) _) _ _ _); k_dflt (refine' @wpAny_Assign_Name _ _ _ _ _ _ _ _ _ _ ?_ ?hzaH; (case hzaH => eq_refl)))
  k_with "w exec Assign" => ((k_here; (with_reducible show wpAny _ _ (exec (Stmt.Assign [PySem.Expr.Name _ _] _ _) _) _ _ _); k_dflt (refine' xs_set ?hzaF ?hzaN ?hzaE ?hzevH ?hzaX ?hzaS ?_; (case hzaF => k_asm); (case hzaE => first | with_reducible assumption | assumption); (case hzevH => k_extra "mac ktr_rel"); (case hzaX => first | ((with_reducible rename EnvOk _ _ _ => hEO9); refine' EnvOk.go hEO9 ?hznB; (case hznB => k_extra "D mem")) | kernel_rfl!); (case hzaS => eq_refl); (case hzaN => k_asm); k_whole); intro h9 F9 N9; (try dsimp only); (try k_sweep)))
  k_with "w eval Call Attribute" => (k_dflt (refine' @MethodCall_ _ _ _ _ _ _ _ _ _ _ _ _ ?_ ?hzaH; (case hzaH => eq_refl)))
  k_with "w eval Call Attribute" => ((k_here; k_dflt (first
  | ((with_reducible show wpAny _ _ (eval (PySem.Expr.Call (PySem.Expr.Attribute _ _ _) [] _ _) _) _ _ _); refine' mcall0 ?hzaF ?hzaX ?hzaN ?hzevH ?hzax ?hzad ?hzam ?hzag ?hzac ?_; (case hzaF => k_asm); (case hzaX => k_asm); (case hzevH => k_extra "mac ktr_rel"); (case hzaN => k_asm); (case hzax => k_mem); (case hzad => k_mem); (case hzam => with_reducible first | exact mf_684_count | exact mf_684_push | exact mf_684_pop | exact mf_684_pop_some | exact mf_760_run | exact mf_760_step | exact mf_760_store | exact mf_760_evaluate | exact mf_760_statements | exact mf_760_statement | exact mf_760_value | exact mf_234_is_done | exact mf_234_peek | exact mf_234_starts | exact mf_234_take | exact mf_234_skip | exact mf_234_take_while | exact mf_234_skip_blanks | exact mf_234_name | exact mf_234_number | exact mf_234_coded | exact mf_234_escape | exact mf_234_quoted | exact mf_444_enter | exact mf_444_leave | exact mf_444_here | exact mf_444_refuse | exact mf_444_is_sign | exact mf_444_skip | exact mf_444_need | exact mf_444_take | exact mf_444_whole | exact mf_444_is_closed | exact mf_444_statements | exact mf_444_statement | exact mf_444_expression | exact mf_444_unary | exact mf_444_atom | exact mf_444_items); (case hzag => k_get); (case hzac => eq_refl); k_whole)
  | ((with_reducible show wpAny _ _ (eval (PySem.Expr.Call (PySem.Expr.Attribute _ _ _) (_ :: _) _ _) _) _ _ _); refine' mcall ?hzaF ?hzaX ?hzaN ?hzevH ?hzax ?hzad ?hzam ?hzag ?hzal ?hzac ?hzas ?hzap ?_; (case hzevH => k_extra "mac ktr_rel"); (case hzal => k_extra "mac ktr_rel"); (case hzaF => k_asm); (case hzaX => k_asm); (case hzaN => k_asm); (case hzax => k_mem); (case hzad => k_mem); (case hzam => with_reducible first | exact mf_684_count | exact mf_684_push | exact mf_684_pop | exact mf_684_pop_some | exact mf_760_run | exact mf_760_step | exact mf_760_store | exact mf_760_evaluate | exact mf_760_statements | exact mf_760_statement | exact mf_760_value | exact mf_234_is_done | exact mf_234_peek | exact mf_234_starts | exact mf_234_take | exact mf_234_skip | exact mf_234_take_while | exact mf_234_skip_blanks | exact mf_234_name | exact mf_234_number | exact mf_234_coded | exact mf_234_escape | exact mf_234_quoted | exact mf_444_enter | exact mf_444_leave | exact mf_444_here | exact mf_444_refuse | exact mf_444_is_sign | exact mf_444_skip | exact mf_444_need | exact mf_444_take | exact mf_444_whole | exact mf_444_is_closed | exact mf_444_statements | exact mf_444_statement | exact mf_444_expression | exact mf_444_unary | exact mf_444_atom | exact mf_444_items); (case hzag => k_get); (case hzac => eq_refl); (case hzas => eq_refl); (case hzap => eq_refl); k_whole))))
  k_with "w eval Call" => (k_dflt (refine' @Call_ _ _ _ _ _ _ _ _ _ ?_ ?hzaH; (case hzaH => eq_refl)))
  k_with "w eval Call" => ((k_here; (with_reducible show wpAny _ _ (eval (PySem.Expr.Call _ (_ :: _) _ _) _) _ _ _); k_dflt (refine' fcall ?hzaF ?hzaX ?hzevH ?hzak ?hzal ?hzac ?hzas ?hzap ?_; (case hzevH => k_extra "mac ktr_rel"); (case hzal => k_extra "mac ktr_rel"); (case hzaF => k_asm); (case hzaX => k_asm); (case hzak => with_reducible first | exact kf_need | exact kf_need_list | exact kf_need_row | exact kf_applied | exact kf_call_of_one | exact kf_bounded | exact kf_is_number | exact kf_position_of | exact kf_refused | exact kf_scan_dollar | exact kf_scan_sign | exact kf_scan_action | exact kf_joined | exact kf_parse_action | exact kf_Frame | exact kf_Machine | exact kf_Cursor | exact kf_Part | exact kf_ActionReader | exact kf_Position | exact kf_ToolError | exact kf_ActionError | exact kf_MachineError | exact kf_law_draw | exact kf_law_ran | exact kf_law_list_right | exact kf_law_text_right); (case hzac => eq_refl); (case hzas => eq_refl); (case hzap => eq_refl); k_whole)))
  k_with "mac k_ne" => (first | with_reducible assumption | (refine Ne.symm ?_; with_reducible assumption) | ((with_reducible rename News _ _ _ _ => nN9); refine' ne_kind nN9 ?hzma9 ?hzmb9 ?hzkk9; (case hzma9 => k_mem); (case hzmb9 => k_mem); (case hzkk9 => kernel_rfl!)) | (refine' Fresh.ne ?hzff9 ?hzmb9; (case hzff9 => with_reducible assumption); (case hzmb9 => k_mem)) | (refine' Fresh.en ?hzff9 ?hzmb9; (case hzff9 => with_reducible assumption); (case hzmb9 => k_mem)) | ((with_reducible rename News _ _ _ _ => nN9); refine' ne_cell nN9 ?hzma9 ?hzmb9 ?hzdd9 ?hzkk9; (case hzma9 => k_mem); (case hzmb9 => k_mem); (case hzdd9 => with_reducible assumption); (case hzkk9 => eq_refl)) | ((with_reducible rename News _ _ _ _ => nN9); refine' ne_cell' nN9 ?hzma9 ?hzmb9 ?hzdd9 ?hzkk9; (case hzma9 => k_mem); (case hzmb9 => k_mem); (case hzdd9 => with_reducible assumption); (case hzkk9 => eq_refl)) | (refine neN ?_; (try dsimp only); first | (refine Nat.ne_of_gt ?_; k_extra "climb"; done) | (refine Nat.ne_of_lt ?_; k_extra "climb"; done) | omega))
  k_with "mac ktr_room" => (((with_reducible rename _ + _ ≤ recursionLimit => rH9); first | exact room2 1 rH9 rfl rfl | exact room2 2 rH9 rfl rfl | exact room2 3 rH9 rfl rfl | exact room2 4 rH9 rfl rfl | exact room2 5 rH9 rfl rfl | exact room2 6 rH9 rfl rfl | exact room2 7 rH9 rfl rfl | exact room2 8 rH9 rfl rfl))
  k_with "mac ktr_units" => (((with_reducible rename _ + _ < cLine + 3 => rH9); first | exact roomU2 3 rH9 rfl rfl | exact roomU2 6 rH9 rfl rfl | exact roomU2 9 rH9 rfl rfl | exact roomU2 12 rH9 rfl rfl | exact roomU2 15 rH9 rfl rfl | exact roomU2 18 rH9 rfl rfl | exact roomU2 21 rH9 rfl rfl | exact roomU2 24 rH9 rfl rfl))
  k_with "mac ktr_room" => ((refine' room ?hzrh9 ?hzrb9; (case hzrh9 => first | with_reducible assumption | assumption); (case hzrb9 => eq_refl)))
  k_with "mac ktr_units" => ((refine' roomU ?hzrh9 ?hzrb9; (case hzrh9 => first | with_reducible assumption | assumption); (case hzrb9 => eq_refl)))
  k_with "w exec Assign" => ((k_here; (with_reducible show wpAny _ _ (exec (Stmt.Assign [PySem.Expr.Attribute (PySem.Expr.Name _ _) _ _] _ _) _) _ _ _); k_dflt (refine' xs_att ?hzaF ?hzaX ?hzaN ?hzevH ?hzevO ?hzax ?hzad ?hzam ?hzag ?hzap ?hzaU ?hzal ?hzaS ?_; (case hzaF => k_asm); (case hzaX => k_asm); (case hzevH => k_extra "mac ktr_rel"); (case hzevO => k_extra "mac ktr_rel"); (case hzaN => k_asm); (case hzax => k_mem); (case hzad => k_mem); (case hzam => with_reducible first | exact sf_684_values | exact sf_684_names | exact sf_684_control | exact sf_684_own | exact sf_684_stack | exact sf_684_steps | exact sf_684_most | exact sf_684_is_left | exact sf_760_most | exact sf_234_text | exact sf_234_at | exact sf_261_kind | exact sf_261_worth | exact sf_261_offset | exact sf_444_text | exact sf_444_parts | exact sf_444_spot | exact sf_444_deep | exact sf_444_below | exact sf_46_offset | exact sf_46_line | exact sf_46_column); (case hzag => k_get); (case hzap => k_put); (case hzaU => k_upd); (case hzal => eq_refl); (case hzaS => eq_refl); k_whole); intro h9 F9 N9; (try dsimp only); (try k_sweep)))
  k_with "mac k_all" => ((intro p9 hp9; refine' Fresh.go ?hzff9 p9 ?hzmm9; (case hzff9 => first | with_reducible assumption | assumption); (case hzmm9 => (repeat' (first | exact hp9 | refine List.mem_cons_of_mem _ ?_)))))
  k_with "D side" => (first | with_reducible assumption | assumption | k_mem | rfl | decide | exact Nat.le_of_ble_eq_true rfl | omega | exact decide_eq_true (by with_reducible assumption) | exact decide_eq_true (by omega))
  k_with "D com" => (((case hzkF => k_asm); (case hzkN => k_asm); (case hzkB => k_asm); (case hzkX => k_asm); (case hzkT => k_asm); (case hzkk => first | eq_refl | assumption); (case hzkd => ktr_room); (case hzku => ktr_units)))
  k_with "D com1" => (((case hzkF => k_asm); (case hzkN => k_asm); (case hzkx => k_mem); (case hzkr => kcf_all); (case hzkB => k_asm); (case hzkX => k_asm); (case hzkT => k_asm); (case hzkk => first | eq_refl | assumption); (case hzkd => ktr_room); (case hzku => ktr_units); (case hzkU => (intro i9; k_upd))))
  k_with "D com2" => (((case hzkF => k_asm); (case hzkN => k_asm); (case hzkx => k_mem); (case hzky => k_mem); (case hzkr => kcf_all); (case hzkB => k_asm); (case hzkX => k_asm); (case hzkT => k_asm); (case hzkk => first | eq_refl | assumption); (case hzkd => ktr_room); (case hzku => ktr_units); (case hzkU => (intro i9; k_upd)); (case hzkV => (intro i9; k_upd))))
  k_with "D fin" => ((k_whole; intro i9 h9 tk9 hP9 hA9 F9 N9; (try dsimp only [List.cons_append, List.nil_append] at hP9 F9 N9 ⊢); (try dsimp only [AllF] at hA9); (try (obtain ⟨hA9a, hA9b, hA9c, hA9⟩ := hA9)); (try (obtain ⟨hA9a, hA9b, hA9⟩ := hA9)); (try (obtain ⟨hA9a, hA9⟩ := hA9)); (try k_sweep)))
  k_with "B keep" => (exact fun i => ⟨i, fun _ _ q hq => by (repeat' (first | exact hq | refine List.mem_cons_of_mem _ ?_))⟩)
  k_with "B out" => (first | with_reducible assumption | assumption | (refine' OutX.sh ?hzbO; (case hzbO => first | with_reducible assumption | assumption)) | (refine' OutX.deep ?hzbK ?hzbF ?hzbh ?hzbO; (case hzbh => eq_refl); (case hzbF => k_asm); (case hzbK => k_asm); (case hzbO => k_extra "B out")))
  k_with "climb" => (repeat' (first | with_reducible assumption | exact Nat.lt_succ_self _ | refine Nat.lt_succ_of_lt ?_))
  k_with "w storeName" => ((k_here; k_dflt (refine' @storeX_L _ _ _ _ _ _ _ _ _ _ _ _ _ _ _ _ ?hzaF ?hzaN ?_ ?hzaK ?hzaX; (case hzaX => ((with_reducible rename EnvOk _ _ _ => hEO9); refine' EnvOk.go hEO9 ?hznB; (case hznB => k_extra "D mem"))); (case hzaF => k_asm); (case hzaN => k_asm); (case hzaK => eq_refl); k_whole); intro _ _ _; (try k_sweep)))
  k_with "w ite" => (first | refine ite_tt ?_ | refine ite_ff ?_)
  k_with "w callWith ref" => ((k_here; (with_reducible show wpAny _ _ (callWith _ (Value.ref _) _ (backTo _ (starEach (_ :: _) _)) []) _ _ _); k_dflt (refine' @callWith_K _ _ _ _ _ _ _ _ _ _ _ _ _ ?hzk1 ?hzk2 ?_ ?hzk3 ?hzk4; (case hzk1 => k_asm); (case hzk2 => k_is); (case hzk3 => eq_refl); (case hzk4 => eq_refl); k_whole)))
  k_with "w callWith ref" => ((k_here; (with_reducible show wpAny _ _ (callWith _ (Value.ref _) _ (backTo _ (starEach [] _)) []) _ _ _); k_dflt (first | (refine' callWith_K0 ?hzk1 ?hzk2 ?_; (case hzk1 => k_in); (case hzk2 => k_is); k_whole) | (refine' callWith_M0 ?hzk1 ?hzk2 ?_; (case hzk1 => k_meth); (case hzk2 => k_is); k_whole; try dsimp only [List.nil_append, List.cons_append]))))
  k_with "w subscriptTail Attribute" => ((k_here; (with_reducible show wpAny _ _ (subscriptTail _ _ (Value.str _ _) _) _ _ _); k_dflt (refine' @kba_turn _ _ _ _ _ _ (PySem.Expr.Name (PySem.Str.ofString "_") ⟨0, 0, 0, 0⟩) _ _ _ _ (fun _ => rfl) ?_)))
  k_with "w subscriptTail Name Constant ref int" => (k_here; (with_reducible show wpAny _ _ (subscriptTail _ _ (Value.ref _) (Value.int _ _)) _ _ _); (with_unfolding_all refine' item_litK ?hzk1 ?hzk2 ?hzk3 ?hzk4 ?_ ?hzk6; (case hzk1 => is_list); (case hzk2 => decide); (case hzk3 => decide); (case hzk4 => rfl); (case hzk6 => with_unfolding_all rfl); k_whole))
  k_with "w subscriptTail Name Constant ref int" => ((k_here; k_dflt (refine' @item_tupleT _ _ _ _ _ _ _ _ _ _ _ _ _ _ ?hzit ?hzia ?hzib ?hzic ?hzid ?_ ?hzie; (case hzit => exact News.isTup (by k_asm) (by k_mem)); (case hzia => decide); (case hzib => decide); (case hzic => eq_refl); (case hzid => eq_refl); (case hzie => with_unfolding_all rfl); k_whole)))
  k_with "w callWith" => ((fail_if_success k_extra "off top"); (with_reducible show wpAny _ _ (callWith _ (Value.builtin _) _ (backTo _ (starEach (_ :: _) _)) []) _ _ _); k_dflt (refine' @callWith_method1 _ _ _ _ _ _ _ _ _ _ _ ?_ ?hzk1 ?hzk2; (case hzk1 => eq_refl); (case hzk2 => eq_refl)))
  k_with "w spliced" => ((fail_if_success k_extra "off top"); (with_reducible show wpAny _ _ (spliced (backTo _ (starEach (_ :: _) _))) _ _ _); k_dflt (refine' @args_cons _ _ _ _ _ _ _ _ _ ?_ ?hzk1; (case hzk1 => eq_refl)))
  k_with "w exec Expr" => ((fail_if_success k_extra "off top"); k_here; k_dflt (refine' @wpAny_Expr_any _ _ _ _ _ _ _ _ _ ?_ ?hzk1 ?hzk2; (case hzk1 => eq_refl); (case hzk2 => eq_refl)))
  k_with "w assignInOrder" => ((fail_if_success k_extra "off top"); k_dflt (refine' @assignInOrder_cons _ _ _ _ _ _ _ _ _ ?_))
  k_with "w call builtin:isinstance" => (k_here; (with_reducible show wpAny _ _ (call _ [Value.ref _, Value.ref _]) _ _ _); kit_cont; k_dflt kit_objs)
  k_with "w call builtin:isinstance" => (k_here; (with_reducible show wpAny _ _ (call _ [Value.ref _, Value.type _]) _ _ _); kit_cont; k_dflt kit_objs)
  k_with "w subscriptTail Name" => (k_here; (with_reducible show wpAny _ _ (subscriptTail _ _ (Value.ref _) (Value.str _ _)) _ _ _); k_dflt (refine' topItem_K ?hzF ?hzX ?hzl ?hzk ?hze ?_; (case hzF => k_asm); (case hzX => k_asm); (case hzl => k_is); (case hzk => k_keys); (case hze => k_is)))
  trivial
section
theorem need_t {w : World} {what : Str} {tw : Tok} {news : Led} : Ct w 534 [.bool true, .str what tw] 2 8 news (R1 (ι := Unit) (fun _ => True) (fun _ => []) (fun _ => .none) news (fun _ => [] ++ news)) := by
  refine' Ct.of [(Str.ofString "is_right", .bool true), (Str.ofString "what", .str what tw)] ?ho ?hcd ?hb ?hl ?hco ?hg ?hk ?hc ?bd
  case ho => k_is
  case hcd => k_is
  case hb => exact fun s9 X9 => by first | exact BindsTo.of_eq rfl | exact binds_K X9 rfl (by k_is) rfl rfl rfl
  case hl => exact locs rfl
  case hco => rfl
  case hg => rfl
  case hk => rfl
  case hc => rfl
  case' bd => (intro dp un gd outer A₀ base g L h o k p loose mean mg mb E B F X N T hdp hun he hE; k_fold; have hEO := envOk he (by kernel_rfl); (try have hBO := bindsOk F (by kernel_rfl)); have hMk : KstMark := kstMark)
  k_steps
  exact R1.next' () trivial nofresh (by assumption) (by assumption) rfl
theorem need_d {w : World} {what : Str} {tw : Tok} {news : Led} {b : Bool} (hb : b = true) : Ct w 534 [.bool b, .str what tw] 2 8 news (R1 (ι := Unit) (fun _ => True) (fun _ => []) (fun _ => .none) news (fun _ => [] ++ news)) := by
  subst hb
  exact need_t
theorem regD11 : True := by
  k_with "w call ref" => ((fail_if_success k_extra "off D1"); (((k_here; (with_reducible show wpAny _ _ (call (Value.ref 534) _) _ _ _); k_dflt (refine' call0 (need_d ?hzs0) ?hzkB ?hzkF ?hzkX ?hzkN ?hzkT ?hzkk ?hzkd ?hzku ?_; k_extra "D com"; (case hzs0 => k_extra "D side")); k_extra "D fin"))))
  trivial
theorem count_d {w : World} {fx fd vx nx st : Addr} {k1 k2 k3 k4 k5 k6 k7 k8 : Tok} {own : Value} {steps most : Int} {ts tm : Tok} (h : steps + 1 ≤ most)
    (rest : Led) (hr : ∀ p ∈ rest, p.1 ≠ fd) :
    Ct w 653 [.ref fx] 4 20 ((fd, frD w k1 k2 k3 k4 k5 k6 k7 k8 vx nx own st steps ts most tm) :: ([(fx, instObj 684 fd)] ++ rest))
      (R1 (ι := Tok) (fun _ => True) (fun _ => []) (fun _ => .none) ((fd, frD w k1 k2 k3 k4 k5 k6 k7 k8 vx nx own st steps ts most tm) :: ([(fx, instObj 684 fd)] ++ rest)) (fun i => [] ++ (fd, frD w k1 k2 k3 k4 k5 k6 k7 k8 vx nx own st (steps + 1) i most tm) :: ([(fx, instObj 684 fd)] ++ rest))) := by
  dsimp only [List.cons_append, List.nil_append]
  refine' Ct.of [(Str.ofString "self", .ref fx)] ?ho ?hcd ?hb ?hl ?hco ?hg ?hk ?hc ?bd
  case ho => k_is
  case hcd => k_is
  case hb => exact fun s9 X9 => by first | exact BindsTo.of_eq rfl | exact binds_K X9 rfl (by k_is) rfl rfl rfl
  case hl => exact locs rfl
  case hco => rfl
  case hg => rfl
  case hk => rfl
  case hc => rfl
  case' bd => (intro dp un gd outer A₀ base g L h o k p loose mean mg mb E B F X N T hdp hun he hE; k_fold; have hEO := envOk he (by kernel_rfl); (try have hBO := bindsOk F (by kernel_rfl)); have hMk : KstMark := kstMark)
  k_steps
  exact R1.next' _ trivial nofresh (by assumption) (by assumption) rfl
theorem fpush_d {w : World} {fx fd vx nx st : Addr} {k1 k2 k3 k4 k5 k6 k7 k8 : Tok} {own : Value} {steps most : Int} {ts tm : Tok} {v : Value} {xs : List Value} {n : Nat} (hz : xs.length ≤ 5000)
    (rest : Led) (hr : ∀ p ∈ rest, p.1 ≠ st) :
    Ct w 660 [.ref fx, v] 2 20 ((st, W.listOf xs.toArray n) :: ([(fx, instObj 684 fd), (fd, frD w k1 k2 k3 k4 k5 k6 k7 k8 vx nx own st steps ts most tm)] ++ rest))
      (R1 (ι := Unit) (fun _ => True) (fun _ => []) (fun _ => .none) ((st, W.listOf xs.toArray n) :: ([(fx, instObj 684 fd), (fd, frD w k1 k2 k3 k4 k5 k6 k7 k8 vx nx own st steps ts most tm)] ++ rest)) (fun _ => [] ++ (st, W.listOf (xs ++ [v]).toArray (n + 1)) :: ([(fx, instObj 684 fd), (fd, frD w k1 k2 k3 k4 k5 k6 k7 k8 vx nx own st steps ts most tm)] ++ rest))) := by
  dsimp only [List.cons_append, List.nil_append]
  have hz2 := size_arr hz (by decide)
  rw [push_arr]
  refine' Ct.of [(Str.ofString "self", .ref fx), (Str.ofString "value", v)] ?ho ?hcd ?hb ?hl ?hco ?hg ?hk ?hc ?bd
  case ho => k_is
  case hcd => k_is
  case hb => exact fun s9 X9 => by first | exact BindsTo.of_eq rfl | exact binds_K X9 rfl (by k_is) rfl rfl rfl
  case hl => exact locs rfl
  case hco => rfl
  case hg => rfl
  case hk => rfl
  case hc => rfl
  case' bd => (intro dp un gd outer A₀ base g L h o k p loose mean mg mb E B F X N T hdp hun he hE; k_fold; have hEO := envOk he (by kernel_rfl); (try have hBO := bindsOk F (by kernel_rfl)); have hMk : KstMark := kstMark)
  k_steps
  exact R1.next' () trivial nofresh (by assumption) (by assumption) rfl
theorem regD12 : True := by
  k_with "w call ref" => ((fail_if_success k_extra "off D1"); (((k_here; (with_reducible show wpAny _ _ (call (Value.ref 660) _) _ _ _); k_dflt (refine' call1 (fun rest hr => fpush_d ?hzs0 rest hr) ?hzkB ?hzkF ?hzkX ?hzkN ?hzkT ?hzkk ?hzkd ?hzku ?hzkx ?hzkr ?hzkU ?_; k_extra "D com1"; (case hzs0 => k_extra "D side")); k_extra "D fin"))))
  trivial
theorem stepPush_d {w : World} {mx fx fd vx nx st : Addr} {k1 k2 k3 k4 k5 k6 k7 k8 : Tok} {own : Value} {steps most : Int} {ts tm t0 : Tok} {v : Value} {xs : List Value} {n : Nat} (hz : xs.length ≤ 5000)
    (rest : Led) (hr : ∀ p ∈ rest, p.1 ≠ st) :
    Ct w 724 [.ref mx, .ref fx, .str (Str.ofString "push") t0, v] 4 40 ((st, W.listOf xs.toArray n) :: ([(fx, instObj 684 fd), (fd, frD w k1 k2 k3 k4 k5 k6 k7 k8 vx nx own st steps ts most tm)] ++ rest))
      (R1 (ι := Unit) (fun _ => True) (fun _ => []) (fun _ => .none) ((st, W.listOf xs.toArray n) :: ([(fx, instObj 684 fd), (fd, frD w k1 k2 k3 k4 k5 k6 k7 k8 vx nx own st steps ts most tm)] ++ rest)) (fun _ => [] ++ (st, W.listOf (xs ++ [v]).toArray (n + 1)) :: ([(fx, instObj 684 fd), (fd, frD w k1 k2 k3 k4 k5 k6 k7 k8 vx nx own st steps ts most tm)] ++ rest))) := by
  dsimp only [List.cons_append, List.nil_append]
  refine' Ct.of [(Str.ofString "self", .ref mx), (Str.ofString "frame", .ref fx), (Str.ofString "op", .str (Str.ofString "push") t0), (Str.ofString "worth", v)] ?ho ?hcd ?hb ?hl ?hco ?hg ?hk ?hc ?bd
  case ho => k_is
  case hcd => k_is
  case hb => exact fun s9 X9 => by first | exact BindsTo.of_eq rfl | exact binds_K X9 rfl (by k_is) rfl rfl rfl
  case hl => exact locs rfl
  case hco => rfl
  case hg => rfl
  case hk => rfl
  case hc => rfl
  case' bd => (intro dp un gd outer A₀ base g L h o k p loose mean mg mb E B F X N T hdp hun he hE; k_fold; have hEO := envOk he (by kernel_rfl); (try have hBO := bindsOk F (by kernel_rfl)); have hMk : KstMark := kstMark)
  k_steps
  exact R1.next' () trivial nofresh (by assumption) (by assumption) rfl
end
theorem offD1 : True := by
  k_with "off D1" => skip
  trivial
section
theorem finit_d {w : World} {x dx vx nx : Addr} {own : Value} {most : Int} {tm : Tok} {news : Led} (l1 : ∀ p ∈ news, p.1 < dx) (l2 : dx < x) :
    Ct w 646 [.ref x, .ref vx, .ref nx, .none, own, .int most tm] 2 20 ((x, instObj 684 dx) :: (dx, dictOf [] 0) :: news)
      (fun r l => r = .none ∧ R1 (ι := Addr × Addr × Addr × Tok × List Tok) (fun _ => True) (fun i => [i.1, i.2.1, i.2.2.1]) (fun i => .ref i.1) news (fun i => [(i.2.2.1, W.listOf #[] 0), (i.1, instObj 684 i.2.1), (i.2.1, frK w i.2.2.2.2 vx nx own i.2.2.1 0 i.2.2.2.1 most tm)] ++ news) (.ref x) l) := by
  refine' Ct.of [(Str.ofString "self", .ref x), (Str.ofString "values", .ref vx), (Str.ofString "names", .ref nx), (Str.ofString "control", .none), (Str.ofString "own", own), (Str.ofString "most", .int most tm)] ?ho ?hcd ?hb ?hl ?hco ?hg ?hk ?hc ?bd
  case ho => k_is
  case hcd => k_is
  case hb => exact fun s9 X9 => by first | exact BindsTo.of_eq rfl | exact binds_K X9 rfl (by k_is) rfl rfl rfl
  case hl => exact locs rfl
  case hco => rfl
  case hg => rfl
  case hk => rfl
  case hc => rfl
  case' bd => (intro dp un gd outer A₀ base g L h o k p loose mean mg mb E B F X N T hdp hun he hE; k_fold; have hEO := envOk he (by kernel_rfl); (try have hBO := bindsOk F (by kernel_rfl)); have hMk : KstMark := kstMark)
  k_steps
  rename _ ∧ _ ∧ AllLt _ _ => l3
  exact R1.init (_, _, _, _, [_, _, _, _, _, _, _, _]) trivial (fresh3 (fresh_of fun p hp => Nat.lt_trans (l1 p hp) l2) (fresh_of l1) (fresh_lt l3.2.2)) (by assumption) (by assumption) rfl
theorem mkFrame_d {w : World} {vx nx : Addr} {own : Value} {most : Int} {tm : Tok} {news : Led} :
    Ct w 684 [.ref vx, .ref nx, .none, own, .int most tm] 3 30 news
      (R1 (ι := Addr × Addr × Addr × Tok × List Tok) (fun _ => True) (fun i => [i.1, i.2.1, i.2.2.1]) (fun i => .ref i.1) news (fun i => [(i.2.2.1, W.listOf #[] 0), (i.1, instObj 684 i.2.1), (i.2.1, frK w i.2.2.2.2 vx nx own i.2.2.1 0 i.2.2.2.1 most tm)] ++ news)) := by
  refine' Ct.make (fI := 646) ?a ?b ?c ?d
  case a => k_is
  case b => k_is
  case c => k_is
  case d => exact fun _ _ l1 l2 => finit_d l1 l2
end
section
theorem regD71 : True := by
  k_with "w call ref" => ((fail_if_success k_extra "off D7"); (((k_here; (with_reducible show wpAny _ _ (call (Value.ref 653) _) _ _ _); k_dflt (refine' call1 (fun rest hr => count_d ?hzs0 rest hr) ?hzkB ?hzkF ?hzkX ?hzkN ?hzkT ?hzkk ?hzkd ?hzku ?hzkx ?hzkr ?hzkU ?_; k_extra "D com1"; (case hzs0 => k_extra "D side")); k_extra "D fin"))))
  trivial
theorem valueNum_d {w : World} {mx fx fd vx nx st part : Addr} {k1 k2 k3 k4 k5 k6 k7 k8 : Tok} {own v : Value} {steps most : Int} {ts tm t0 : Tok} (h : steps + 1 ≤ most)
    (rest : Led) (hr : ∀ p ∈ rest, p.1 ≠ fd) :
    Ct w 757 [.ref mx, .ref fx, .ref part] 6 40 ((fd, frD w k1 k2 k3 k4 k5 k6 k7 k8 vx nx own st steps ts most tm) :: ([(fx, instObj 684 fd), (part, tupOf [.str (Str.ofString "number") t0, v])] ++ rest))
      (R1 (ι := Tok) (fun _ => True) (fun _ => []) (fun _ => v) ((fd, frD w k1 k2 k3 k4 k5 k6 k7 k8 vx nx own st steps ts most tm) :: ([(fx, instObj 684 fd), (part, tupOf [.str (Str.ofString "number") t0, v])] ++ rest)) (fun i => [] ++ (fd, frD w k1 k2 k3 k4 k5 k6 k7 k8 vx nx own st (steps + 1) i most tm) :: ([(fx, instObj 684 fd), (part, tupOf [.str (Str.ofString "number") t0, v])] ++ rest))) := by
  dsimp only [List.cons_append, List.nil_append]
  refine' Ct.ofC [(Str.ofString "self", .ref mx), (Str.ofString "frame", .ref fx), (Str.ofString "node", .ref part)] ?ho ?hcd ?hb ?hl ?hnd ?hco ?hg ?hk ?bd
  case ho => k_is
  case hcd => k_is
  case hb => exact fun s9 X9 => by first | exact BindsTo.of_eq rfl | exact binds_K X9 rfl (by k_is) rfl rfl rfl
  case hl => rfl
  case hnd => decide +kernel
  case hco => rfl
  case hg => rfl
  case hk => rfl
  case' bd => (intro dp un gd outer A₀ base g L cells h o k p loose mean mg mb E B F X N Y T hdp hun he hE l1; k_fold; have hEO := envOkC he (by kernel_rfl); have l1 := allLt_of l1; dsimp only [AllLt] at l1; k_cells Y; simp only [List.cons_append, List.nil_append] at N; have hMk : KstMark := kstMark)
  k_steps
  exact R1.ret _ trivial nofresh (by assumption) (by assumption) rfl (by kcj_all)
theorem valueOwn_d {w : World} {mx fx fd vx nx st part : Addr} {k1 k2 k3 k4 k5 k6 k7 k8 : Tok} {oa : Addr} {steps most : Int} {ts tm t0 : Tok} (h : steps + 1 ≤ most)
    (rest : Led) (hr : ∀ p ∈ rest, p.1 ≠ fd) :
    Ct w 757 [.ref mx, .ref fx, .ref part] 6 40 ((fd, frD w k1 k2 k3 k4 k5 k6 k7 k8 vx nx (.ref oa) st steps ts most tm) :: ([(fx, instObj 684 fd), (part, tupOf [.str (Str.ofString "own") t0])] ++ rest))
      (R1 (ι := Tok) (fun _ => True) (fun _ => []) (fun _ => .ref oa) ((fd, frD w k1 k2 k3 k4 k5 k6 k7 k8 vx nx (.ref oa) st steps ts most tm) :: ([(fx, instObj 684 fd), (part, tupOf [.str (Str.ofString "own") t0])] ++ rest)) (fun i => [] ++ (fd, frD w k1 k2 k3 k4 k5 k6 k7 k8 vx nx (.ref oa) st (steps + 1) i most tm) :: ([(fx, instObj 684 fd), (part, tupOf [.str (Str.ofString "own") t0])] ++ rest))) := by
  dsimp only [List.cons_append, List.nil_append]
  refine' Ct.ofC [(Str.ofString "self", .ref mx), (Str.ofString "frame", .ref fx), (Str.ofString "node", .ref part)] ?ho ?hcd ?hb ?hl ?hnd ?hco ?hg ?hk ?bd
  case ho => k_is
  case hcd => k_is
  case hb => exact fun s9 X9 => by first | exact BindsTo.of_eq rfl | exact binds_K X9 rfl (by k_is) rfl rfl rfl
  case hl => rfl
  case hnd => decide +kernel
  case hco => rfl
  case hg => rfl
  case hk => rfl
  case' bd => (intro dp un gd outer A₀ base g L cells h o k p loose mean mg mb E B F X N Y T hdp hun he hE l1; k_fold; have hEO := envOkC he (by kernel_rfl); have l1 := allLt_of l1; dsimp only [AllLt] at l1; k_cells Y; simp only [List.cons_append, List.nil_append] at N; have hMk : KstMark := kstMark)
  k_steps
  exact R1.ret _ trivial nofresh (by assumption) (by assumption) rfl (by kcj_all)
end
theorem offD7 : True := by
  k_with "off D7" => skip
  trivial
section
local  macro_rules | `(tactic| l_ints) => `(tactic| skip)
theorem regD81 : True := by
  k_with "w call ref" => ((fail_if_success k_extra "off D8"); (((k_here; (with_reducible show wpAny _ _ (call (Value.ref 653) _) _ _ _); k_dflt (refine' call1 (fun rest hr => count_d ?hzs0 rest hr) ?hzkB ?hzkF ?hzkX ?hzkN ?hzkT ?hzkk ?hzkd ?hzku ?hzkx ?hzkr ?hzkU ?_; k_extra "D com1"; (case hzs0 => k_extra "D side")); k_extra "D fin"))))
  k_with "w call ref" => ((fail_if_success k_extra "off D8"); (((k_here; (with_reducible show wpAny _ _ (call (Value.ref 534) _) _ _ _); k_dflt (refine' call0 (need_d ?hzs0) ?hzkB ?hzkF ?hzkX ?hzkN ?hzkT ?hzkk ?hzkd ?hzku ?_; k_extra "D com"; (case hzs0 => k_extra "D side")); k_extra "D fin"))))
  k_with "w call ref" => ((fail_if_success k_extra "off D8"); (((k_here; (with_reducible show wpAny _ _ (call (Value.ref 757) _) _ _ _); k_dflt (refine' call1 (fun rest hr => valueOwn_d ?hzs0 rest hr) ?hzkB ?hzkF ?hzkX ?hzkN ?hzkT ?hzkk ?hzkd ?hzku ?hzkx ?hzkr ?hzkU ?_; k_extra "D com1"; (case hzs0 => k_extra "D side")); k_extra "D fin"))))
  k_with "w CompRest" => ((fail_if_success k_extra "off D8"); (((refine Halt.out ?_))))
  k_with "w CompEnd" => ((fail_if_success k_extra "off D8"); (((refine Halt.out ?_))))
  trivial
theorem valueLen_d {w : World} {mx md fx fd vx nx st node oa q ls : Addr} {k1 k2 k3 k4 k5 k6 k7 k8 : Tok} {xs : List Value} {steps most : Int} {ts tm t0 t1 t2 tq tq2 : Tok} {mq : Int} {kz nl : Nat} (h2 : steps + 2 ≤ most) (hx : xs.length = kz) (hk9 : kz ≤ 2001)
    (rest : Led) (hr : ∀ p ∈ rest, p.1 ≠ fd) :
    Ct w 757 [.ref mx, .ref fx, .ref node] 16 120 ((fd, frD w k1 k2 k3 k4 k5 k6 k7 k8 vx nx (.ref oa) st steps ts most tm) :: ([(fx, instObj 684 fd), (node, tupOf [.str (Str.ofString "apply") t0, .str (Str.ofString "len") t1, .ref ls]), (ls, W.listOf #[.ref q] nl), (q, tupOf [.str (Str.ofString "own") t2]), (oa, tupOf xs), (mx, instObj 760 md), (md, mcD w tq mq tq2)] ++ rest))
      (R1 (ι := Tok × Tok) (fun _ => True) (fun _ => []) (fun i => .int kz i.1) ((fd, frD w k1 k2 k3 k4 k5 k6 k7 k8 vx nx (.ref oa) st steps ts most tm) :: ([(fx, instObj 684 fd), (node, tupOf [.str (Str.ofString "apply") t0, .str (Str.ofString "len") t1, .ref ls]), (ls, W.listOf #[.ref q] nl), (q, tupOf [.str (Str.ofString "own") t2]), (oa, tupOf xs), (mx, instObj 760 md), (md, mcD w tq mq tq2)] ++ rest)) (fun i => [] ++ (fd, frD w k1 k2 k3 k4 k5 k6 k7 k8 vx nx (.ref oa) st (steps + 1 + 1) i.2 most tm) :: ([(fx, instObj 684 fd), (node, tupOf [.str (Str.ofString "apply") t0, .str (Str.ofString "len") t1, .ref ls]), (ls, W.listOf #[.ref q] nl), (q, tupOf [.str (Str.ofString "own") t2]), (oa, tupOf xs), (mx, instObj 760 md), (md, mcD w tq mq tq2)] ++ rest))) := by
  dsimp only [List.cons_append, List.nil_append]
  refine' Ct.ofC [(Str.ofString "self", .ref mx), (Str.ofString "frame", .ref fx), (Str.ofString "node", .ref node)] ?ho ?hcd ?hb ?hl ?hnd ?hco ?hg ?hk ?bd
  case ho => k_is
  case hcd => k_is
  case hb => exact fun s9 X9 => by first | exact BindsTo.of_eq rfl | exact binds_K X9 rfl (by k_is) rfl rfl rfl
  case hl => rfl
  case hnd => decide +kernel
  case hco => rfl
  case hg => rfl
  case hk => rfl
  case' bd => (intro dp un gd outer A₀ base g L cells h o k p loose mean mg mb E B F X N Y T hdp hun he hE l1; k_fold; have hEO := envOkC he (by kernel_rfl); have l1 := allLt_of l1; dsimp only [AllLt] at l1; k_cells Y; simp only [List.cons_append, List.nil_append] at N; have hMk : KstMark := kstMark)
  k_steps
  refine Halt.go ?_
  refine LCg.CompRest.succ ?_
  intro v I oI C oC D m₂ h3 tk3 E' hv hC hx3 F3 N3 off ne
  obtain rfl : Value.ref q = v := by simpa using hv
  k_steps
  refine Halt.go ?_
  rename News _ _ _ _ => NN
  refine LCg.CompEnd.intro (by assumption) NN _ (fun p hp => hp) (off_same off rfl) (.inr ⟨_, by k_mem, rfl, _, rfl⟩) (LCg.CompRest.zero ?_)
  clear off ne
  k_steps
  exact R1.ret (_, _) trivial nofresh (by assumption) (by assumption) rfl (by kcj_in)
end
theorem offD8 : True := by
  k_with "off D8" => skip
  trivial
section
theorem regD111 : True := by
  k_with "w call ref" => ((fail_if_success k_extra "off D11"); (((k_here; (with_reducible show wpAny _ _ (call (Value.ref 653) _) _ _ _); k_dflt (refine' call1 (fun rest hr => count_d ?hzs0 rest hr) ?hzkB ?hzkF ?hzkX ?hzkN ?hzkT ?hzkk ?hzkd ?hzku ?hzkx ?hzkr ?hzkU ?_; k_extra "D com1"; (case hzs0 => k_extra "D side")); k_extra "D fin"))))
  k_with "w call ref" => ((fail_if_success k_extra "off D11"); (((k_here; (with_reducible show wpAny _ _ (call (Value.ref 757) _) _ _ _); k_dflt (refine' call1 (fun rest hr => valueLen_d ?hzs0 ?hzs1 ?hzs2 rest hr) ?hzkB ?hzkF ?hzkX ?hzkN ?hzkT ?hzkk ?hzkd ?hzku ?hzkx ?hzkr ?hzkU ?_; k_extra "D com1"; (case hzs2 => k_extra "D side"); (case hzs1 => k_extra "D side"); (case hzs0 => k_extra "D side")); k_extra "D fin"))))
  k_with "w call ref" => ((fail_if_success k_extra "off D11"); (((k_here; (with_reducible show wpAny _ _ (call (Value.ref 684) _) _ _ _); k_dflt (refine' call0 (mkFrame_d ) ?hzkB ?hzkF ?hzkX ?hzkN ?hzkT ?hzkk ?hzkd ?hzku ?_; k_extra "D com"); k_extra "D fin"))))
  k_with "w exec For Name Name cons nil" => ((fail_if_success k_extra "off D11"); (((refine Halt.out ?_))))
  k_with "w pyIter ref" => ((fail_if_success k_extra "off D11"); ((((with_reducible show wpAny _ _ (pyIter (Value.ref _)) (fun it s₂ => LoopAtV _ _ _ _ _ _ _ _ _ it s₂) _ _); (rename Fr _ _ _ _ => lF'); (rename News _ _ _ _ => lN'); (with_unfolding_all refine' iter_listUnr ?hzk1 lF' lN' ?hzk2 ?hzk3 ?hzk4 ?_; (case hzk1 => rfl); (case hzk2 => k_mem); (case hzk3 => rfl); (case hzk4 => rfl); k_whole); clear lF'; intro i' l1; (try k_lt l1)))))
  k_with "w UnrEnd" => ((fail_if_success k_extra "off D11"); (((refine Halt.out ?_))))
  trivial
theorem unr_one {h₀ : Heap} {L I : Addr} {it : Obj} {R : (Str → Option Value) → Led → Prop} {s₁ : Shared} {h' : Heap} {tk : Nat} {m' : Str → Option Value} {rest : Led} (F : Fr h₀ L h' m') (N : News h₀ L h' ((I, it) :: rest)) (hr : AllLt I rest)
    (r : R m' rest) : UnrEnd h₀ L s₁ I it R { s₁ with heap := h', toks := tk } :=
  UnrEnd.intro F N rest (fun p hp => hp) (fun p hp => Nat.ne_of_lt (kst_ltOf hr p hp)) r
theorem evalLen_d {w : World} {mx md nx vx ns nd ls q pl oa : Addr} {tm tm2 t0 t1 t2 t3 : Tok} {most : Int} {xs : List Value} {kz nl nn : Nat} (h9 : 1 + 2 ≤ most) (hx : xs.length = kz) (hk9 : kz ≤ 2001) (tl : Led) :
    Ct w 738 [.ref mx, .ref ns, .ref vx, .ref nx, .none, .ref oa] 24 220 ((ns, W.listOf #[.ref nd] nn) :: (nd, tupOf [.str (Str.ofString "set") t3, .ref ls]) :: (ls, tupOf [.str (Str.ofString "apply") t0, .str (Str.ofString "len") t1, .ref pl]) :: (pl, W.listOf #[.ref q] nl) :: (q, tupOf [.str (Str.ofString "own") t2]) :: (oa, tupOf xs) :: (mx, instObj 760 md) :: (md, mcD w tm most tm2) :: tl)
      (R1 (ι := Tok) (fun _ => True) (fun _ => []) (fun i => .int kz i) ((ns, W.listOf #[.ref nd] nn) :: (nd, tupOf [.str (Str.ofString "set") t3, .ref ls]) :: (ls, tupOf [.str (Str.ofString "apply") t0, .str (Str.ofString "len") t1, .ref pl]) :: (pl, W.listOf #[.ref q] nl) :: (q, tupOf [.str (Str.ofString "own") t2]) :: (oa, tupOf xs) :: (mx, instObj 760 md) :: (md, mcD w tm most tm2) :: tl)
       (fun _ => [] ++ ((ns, W.listOf #[.ref nd] nn) :: (nd, tupOf [.str (Str.ofString "set") t3, .ref ls]) :: (ls, tupOf [.str (Str.ofString "apply") t0, .str (Str.ofString "len") t1, .ref pl]) :: (pl, W.listOf #[.ref q] nl) :: (q, tupOf [.str (Str.ofString "own") t2]) :: (oa, tupOf xs) :: (mx, instObj 760 md) :: (md, mcD w tm most tm2) :: tl))) := by
  refine' Ct.of [(Str.ofString "self", .ref mx), (Str.ofString "nodes", .ref ns), (Str.ofString "values", .ref vx), (Str.ofString "names", .ref nx), (Str.ofString "control", .none), (Str.ofString "own", .ref oa)] ?ho ?hcd ?hb ?hl ?hco ?hg ?hk ?hc ?bd
  case ho => k_is
  case hcd => k_is
  case hb => exact fun s9 X9 => by first | exact BindsTo.of_eq rfl | exact binds_K X9 rfl (by k_is) rfl rfl rfl
  case hl => exact locs rfl
  case hco => rfl
  case hg => rfl
  case hk => rfl
  case hc => rfl
  case' bd => (intro dp un gd outer A₀ base g L h o k p loose mean mg mb E B F X N T hdp hun he hE; k_fold; have hEO := envOk he (by kernel_rfl); (try have hBO := bindsOk F (by kernel_rfl)); have hMk : KstMark := kstMark)
  k_steps
  have h7 : ∀ p ∈ tl, p.1 ≠ i9.2.1 := fun p hp => hA9b.go p (.tail _ (.tail _ (.tail _ (.tail _ (.tail _ (.tail _ (.tail _ (.tail _ hp))))))))
  refine Halt.go ?_
  (k_here; (rename Fr _ _ _ _ => lF'); (with_unfolding_all refine' For_invVF lF' ?k1 ?k2 ?_; (case k1 => exact rfl); (case k2 => exact rfl); k_whole))
  k_steps
  refine Halt.go ?_
  rename _ ∧ _ ∧ _ ∧ _ ∧ _ ∧ _ ∧ _ ∧ _ ∧ _ ∧ _ ∧ _ ∧ AllLt _ _ => l1
  refine unr_one (by assumption) (by assumption) (by exact l1) ⟨by k_mem, ?_⟩
  k_steps
  exact R1.ret _ trivial nofresh (by assumption) (by assumption) rfl (by kcj_all)
end
theorem offD11 : True := by
  k_with "off D11" => skip
  trivial
section
theorem regDU1 : True := by
  k_with "w exec While BoolOp cons nil" => ((fail_if_success k_extra "off DU"); (((refine Halt.out ?_))))
  trivial
theorem my_item {prog : Program} {w : World} {A : Around} {E : Value → Shared → Prop} {s : Shared} {value slice : PySem.Expr} {l : Addr} {vs : List Value} {k : Int} {u : Tok} {v : Value} {Q : Value → Shared → Prop}
    (hl : s.heap.IsList l vs.toArray) (h0 : 0 ≤ k) (hhi : k < 2 ^ 63) (hx : vs[k.toNat]? = some v) (h : Q v s)
    (hs : subscripted slice false (.ref l) (.int k u) = operate [.ref l, .int k u] (getItem (.ref l) (.int k u)) := by with_unfolding_all rfl) :
    wpAny (model prog w) A (subscriptTail value slice (.ref l) (.int k u)) Q E s :=
  tail_any hl.typeIs slot_list_getitem.lookup (wpAny_getItem_list hl h0 hhi (by simpa using hx) h) hs
theorem regDU2 : True := by
  k_with "w subscriptTail" => ((fail_if_success k_extra "off DU"); (((k_here; (with_reducible show wpAny _ _ (subscriptTail _ _ (Value.ref _) (Value.int _ _)) _ _ _); (with_unfolding_all refine' my_item ?hzk1 ?hzk2 ?hzk3 ?hzk4 ?_ ?hzk6; (case hzk1 => is_list); (case hzk2 => omega); (case hzk3 => omega); (case hzk4 => assumption); (case hzk6 => with_unfolding_all rfl); k_whole)))))
  k_with "w call ref" => ((fail_if_success k_extra "off DU"); (((k_here; (with_reducible show wpAny _ _ (call (Value.ref 653) _) _ _ _); k_dflt (refine' call1 (fun rest hr => count_d ?hzs0 rest hr) ?hzkB ?hzkF ?hzkX ?hzkN ?hzkT ?hzkk ?hzkd ?hzku ?hzkx ?hzkr ?hzkU ?_; k_extra "D com1"; (case hzs0 => k_extra "D side")); k_extra "D fin"))))
  trivial
noncomputable def fnAt (w : World) (f : Addr) : Option FuncData := match (Mine.K w.params).lookup f with
  | some ⟨_, _, .func d, _⟩ => some d
  | _ => none
noncomputable def stmtsAt (w : World) (f : Addr) : List Stmt := match fnAt w f with
  | some d => (match d.body with
    | .stmts b => b
    | _ => [])
  | none => []
noncomputable def scopeAt (w : World) (f : Addr) : Scope := match fnAt w f with
  | some d => d.scope
  | none => default
theorem with_lit {w : World} {f : Addr} {G : Prop} {name qual : Str} {params : Arguments} {body : List Stmt} {scope : Scope} {dV kV doc pm cdv ct oc : Value} {an od : Option Addr} {osl : Array (Option Value)}
    (ho : (Mine.K w.params).lookup f = some ⟨oc, od, .func (fnOf name qual params body scope dV kV doc pm an cdv ct), osl⟩) (k : scopeAt w f = scope → stmtsAt w f = body → G) : G := by
  refine k ?_ ?_
  · unfold scopeAt fnAt
    rw [ho]
  · unfold stmtsAt fnAt
    rw [ho]
noncomputable def whTest : List Stmt → PySem.Expr
  | .While t _ _ _ :: _ => t
  | _ => default
noncomputable def whBody : List Stmt → List Stmt
  | .While _ b _ _ :: _ => b
  | _ => []
theorem regDU3 : True := by
  k_with "w call ref" => ((fail_if_success k_extra "off DU"); ((((with_reducible show wpAny _ _ (call (Value.ref 724) _) _ _ _); (refine Halt.out ?_)))))
  trivial
theorem in_strs_is {prog : Program} {w : World} {A : Around} {E : Value → Shared → Prop} {s : Shared} {t : Addr} {items : Array Value} {ys : List Str} {x : Str} {u : Tok} {r : Bool} {Q : Value → Shared → Prop} (ht : IsTup s.heap t items) (hi : StrsAre items.toList ys) (e : ys.any (· == x) = r)
    (h : Q (.bool r) s) : wpAny (model prog w) A (compareOp .In (.str x u) (.ref t)) Q E s := in_tuple_strs ht hi (by rw [e]; exact h)
theorem regDU4 : True := by
  k_with "w compareOp In str ref" => ((fail_if_success k_extra "off DU"); (((k_here; (with_reducible show wpAny _ _ (compareOp CmpOp.In (Value.str _ _) (Value.ref _)) _ _ _); (with_unfolding_all refine' in_strs_is ?hzk1 ?hzk2 ?hzk3 ?_; (case hzk1 => exact News.isTup (by k_asm) (by news_mem)); (case hzk2 => kde_strs); (case hzk3 => assumption); k_whole)))))
  trivial
theorem runTurn0 {w : World} {mx md cx fx fd vx nx st q : Addr} {k1 k2 k3 k4 k5 k6 k7 k8 : Tok} {own worth : Value} {steps most : Int} {ts tm ti tq tmq tmr : Tok} {opS : Str} {z : Int} {codeL : List Value} {nc kc : Nat}
    {dp un : Nat} {gd : Option (List Code)} {outer : List Env} {A₀ : Around} {base g : Heap} {L : Addr} {h : Heap} {o : Shared} {k : Nat} {p : Program} {loose : List Str} {mean : ExcName → Option Value} {mg mb : Str → Option Value} {E : Value → Shared → Prop} {Q : Flow → Shared → Prop} {P : Shared → Prop} {m : Str → Option Value} {rest : Led}
    {sc : Scope} {bd : List Stmt} (e1 : scopeAt w 710 = sc) (e2 : stmtsAt w 710 = bd)
    (hr : ∀ p ∈ rest, p.1 ≠ fd) (B : Below A₀ base outer g) (F : Fr g L h m) (X : (Mine.K w.params).In g) (N : News g L h ((fd, frD w k1 k2 k3 k4 k5 k6 k7 k8 vx nx own st steps ts most tm) :: (fx, instObj 684 fd) :: (mx, instObj 760 md) :: (md, mcD w tmq most tmr) :: (cx, W.listOf codeL.toArray nc) :: (q, tupOf [.str opS tq, worth]) :: rest)) (T : Top p loose mean mg mb g) (hdp : dp + 8 ≤ recursionLimit) (hun : un + 60 < cLine + 3)
    (hm : ∀ p ∈ [(Str.ofString "self", Value.ref mx), (Str.ofString "code", Value.ref cx), (Str.ofString "frame", Value.ref fx), (Str.ofString "at", Value.int z ti)], m p.1 = some p.2)
    (hlen : codeL.length = kc) (hz : kc ≤ 5000) (h0 : 0 ≤ z) (h1 : z < kc) (hcq : codeL[z.toNat]? = some (.ref q)) (hop : ([Str.ofString "jump", Str.ofString "unless", Str.ofString "when"].any (· == opS)) = false) (hst : steps + 1 ≤ most)
    (hc : ∀ i h' tk' t1 m', Fr g L h' m' → News g L h' ((fd, frD w k1 k2 k3 k4 k5 k6 k7 k8 vx nx own st (steps + 1) i most tm) :: (fx, instObj 684 fd) :: (mx, instObj 760 md) :: (md, mcD w tmq most tmr) :: (cx, W.listOf codeL.toArray nc) :: (q, tupOf [.str opS tq, worth]) :: rest) →
      (∀ p ∈ [(Str.ofString "self", Value.ref mx), (Str.ofString "code", Value.ref cx), (Str.ofString "frame", Value.ref fx), (Str.ofString "at", Value.int (z + 1) t1)], m' p.1 = some p.2) →
      (∀ y, (∀ p ∈ [(Str.ofString "at", Value.int (z + 1) t1)], y ≠ p.1) → [Str.ofString "op", Str.ofString "worth"].contains y = false → m' y = m y) →
      wpAny (model PySem.Challenge.rw_qd0072_01.row.prog w) (ktrTop dp un gd (Str.ofString "Machine.run") sc L 710 (.ref 709) [] outer) (call (.ref 724) [.ref mx, .ref fx, .str opS tq, worth]) (fun _ s => P s) E (SH o h' tk')) :
    WT PySem.Challenge.rw_qd0072_01.row.prog w (ktrTop dp un gd (Str.ofString "Machine.run") sc L 710 (.ref 709) [] outer) (envX (Str.ofString "Machine.run") sc L 710 (.ref 709) []) (whTest bd.tail) (whBody bd.tail) Q E P (SH o h k) := by
  have he : FnEnv (envX (Str.ofString "Machine.run") sc L 710 (.ref 709) []) L := ⟨_, _, _, _, _, rfl, by rw [← e1]; rfl⟩
  refine' with_lit (w := w) (f := 710) ?ho ?kk
  case ho => k_is
  case' kk => intro f1 f2
  obtain rfl := e1.symm.trans f1
  obtain rfl := e2.symm.trans f2
  clear f1 f2
  dsimp only [whTest, whBody, List.tail]
  have hMk : KstMark := kstMark
  have e : kstB m [(Str.ofString "self", Value.ref mx), (Str.ofString "code", Value.ref cx), (Str.ofString "frame", Value.ref fx), (Str.ofString "at", Value.int z ti)] = m := funext fun y => kstB_eq hm fun _ => rfl
  have F0 := F
  clear F
  have F : Fr g L h (kstB m [(Str.ofString "self", Value.ref mx), (Str.ofString "code", Value.ref cx), (Str.ofString "frame", Value.ref fx), (Str.ofString "at", Value.int z ti)]) := by rw [e]; exact F0
  clear F0
  dsimp only [kstB] at F
  refine ⟨?_⟩
  show wpAny _ _ (isTrue (PySem.Expr.BoolOp _ _ _) _ _) _ _ _
  k_steps
  refine Halt.go ?_
  rename News _ _ _ _ => NN
  exact hc _ _ _ _ _ (by assumption) (kst_newsOf NN fun p hp => List.mem_cons_of_mem _ hp) (by kst_all) (fun y h2 h3 => by
    have e9 := congrFun e y
    dsimp only [kstB] at e9
    refine Eq.trans ?_ e9
    simp only [List.forall_mem_cons, List.not_mem_nil, false_implies, implies_true, and_true, ne_eq] at h2
    simp only [List.contains_cons, List.contains_nil, Bool.or_false, Bool.or_eq_false_iff, beq_eq_false_iff_ne, ne_eq] at h3
    simp [h2, h3])
end
theorem offDU : True := by
  k_with "off DU" => skip
  trivial
section
theorem news_front {g h : Heap} {L : Addr} {news reads : Led} {x : Addr} {ob : Obj} (N : News g L h news) (hx : (x, ob) ∈ news) (hr : ∀ q ∈ reads, q ∈ news) : News g L h ((x, ob) :: (reads ++ news.filter fun q => q.1 != x)) := by
  intro q hq
  rcases List.mem_cons.mp hq with rfl | hq
  · exact N _ hx
  · rcases List.mem_append.mp hq with hq | hq
    · exact N _ (hr q hq)
    · exact N _ (List.mem_filter.mp hq).1
theorem news_back {g h' : Heap} {L : Addr} {news news' reads : Led} {x : Addr} {ob ob' : Obj} (U : Upd x ob ob' news news') (N' : News g L h' ((x, ob') :: (reads ++ news.filter fun q => q.1 != x))) : News g L h' news' := by
  obtain ⟨pre, post, e1, e2, h1, h2⟩ := U.split
  rw [e2]
  intro q hq
  rcases List.mem_append.mp hq with hq | hq
  · exact N' q (List.mem_cons_of_mem _ (List.mem_append_right _ (List.mem_filter.mpr ⟨by rw [e1]; exact List.mem_append_left _ hq, by simpa using h1 q hq⟩)))
  · rcases List.mem_cons.mp hq with rfl | hq
    · exact N' _ List.mem_cons_self
    · exact N' q (List.mem_cons_of_mem _ (List.mem_append_right _ (List.mem_filter.mpr ⟨by rw [e1]; exact List.mem_append_right _ (List.mem_cons_of_mem _ hq), by simpa using h2 q hq⟩)))
noncomputable abbrev selfCodeFrame (mx cx fx : Addr) (m : Str → Option Value) : Prop := m (Str.ofString "self") = some (.ref mx) ∧ m (Str.ofString "code") = some (.ref cx) ∧ m (Str.ofString "frame") = some (.ref fx)
noncomputable abbrev runM (m : Str → Option Value) (u : Str → Option Value) (z : Int) (t : Tok) : Str → Option Value := kstB (fun y => if [Str.ofString "op", Str.ofString "worth"].contains y then u y else m y) [(Str.ofString "at", .int z t)]
theorem all4 {m : Str → Option Value} {a b c d : Str × Value} (h1 : m a.1 = some a.2) (h2 : m b.1 = some b.2) (h3 : m c.1 = some c.2) (h4 : m d.1 = some d.2) : ∀ p ∈ [a, b, c, d], m p.1 = some p.2 := by
  intro p hp
  rcases List.mem_cons.mp hp with rfl | hp
  · exact h1
  rcases List.mem_cons.mp hp with rfl | hp
  · exact h2
  rcases List.mem_cons.mp hp with rfl | hp
  · exact h3
  · rw [List.mem_singleton.mp hp]; exact h4
section
variable {w : World} {mx md cx fx fd vx nx st q : Addr} {k1 k2 k3 k4 k5 k6 k7 k8 : Tok} {own worth : Value} {steps most : Int} {ts tm ti tq tmq tmr : Tok} {opS : Str} {z : Int} {codeL : List Value} {nc kc : Nat}
    {dp un : Nat} {gd : Option (List Code)} {outer : List Env} {A₀ : Around} {base g : Heap} {L : Addr} {h : Heap} {o : Shared} {k : Nat} {p : Program} {loose : List Str} {mean : ExcName → Option Value} {mg mb : Str → Option Value} {E : Value → Shared → Prop} {Q : Flow → Shared → Prop} {P : Shared → Prop} {m u : Str → Option Value} {news : Led} {news' : Tok → Led}
    {sc : Scope} {bd : List Stmt}
theorem runM_scf (hM : selfCodeFrame mx cx fx m) : selfCodeFrame mx cx fx (runM m u z ti) := ⟨hM.1, hM.2.1, hM.2.2⟩
theorem runM_at : runM m u z ti (Str.ofString "at") = some (.int z ti) := rfl
theorem runM_same {y : Str} (h1 : y ≠ Str.ofString "at") (h2 : [Str.ofString "op", Str.ofString "worth"].contains y = false) : runM m u z ti y = m y := by
  simp only [runM, kstB, h2]
  simp [h1]
theorem runF (F : Fr g L h (runM m u z ti)) (hM : selfCodeFrame mx cx fx m) : ∃ mm, Fr g L h (kstB mm [(Str.ofString "self", Value.ref mx), (Str.ofString "code", Value.ref cx), (Str.ofString "frame", Value.ref fx), (Str.ofString "at", Value.int z ti)]) :=
  ⟨runM m u z ti, by rw [show kstB (runM m u z ti) [(Str.ofString "self", Value.ref mx), (Str.ofString "code", Value.ref cx), (Str.ofString "frame", Value.ref fx), (Str.ofString "at", Value.int z ti)] = runM m u z ti from funext fun y => kstB_eq (all4 hM.1 hM.2.1 hM.2.2 rfl) fun _ => rfl]; exact F⟩
/-- one turn of Machine.run, up to the call of step -/
theorem runTurn (e1 : scopeAt w 710 = sc) (e2 : stmtsAt w 710 = bd) (hdp : dp + 8 ≤ recursionLimit) (hun : un + 60 < cLine + 3)
    (B : Below A₀ base outer g) (F : Fr g L h (runM m u z ti)) (X : (Mine.K w.params).In g) (N : News g L h news) (T : Top p loose mean mg mb g) (hM : selfCodeFrame mx cx fx m)
    (hx : (fd, frD w k1 k2 k3 k4 k5 k6 k7 k8 vx nx own st steps ts most tm) ∈ news) (hr : ∀ y ∈ [(fx, instObj 684 fd), (mx, instObj 760 md), (md, mcD w tmq most tmr), (cx, W.listOf codeL.toArray nc), (q, tupOf [.str opS tq, worth])], y ∈ news)
    (U : ∀ i, Upd fd (frD w k1 k2 k3 k4 k5 k6 k7 k8 vx nx own st steps ts most tm) (frD w k1 k2 k3 k4 k5 k6 k7 k8 vx nx own st (steps + 1) i most tm) news (news' i))
    (hlen : codeL.length = kc) (hz : kc ≤ 5000) (h0 : 0 ≤ z) (h1 : z < kc) (hcq : codeL[z.toNat]? = some (.ref q)) (hop : ([Str.ofString "jump", Str.ofString "unless", Str.ofString "when"].any (· == opS)) = false) (hst : steps + 1 ≤ most)
    (hc : ∀ i h' tk' t1 u', Fr g L h' (runM m u' (z + 1) t1) → News g L h' (news' i) →
      wpAny (model PySem.Challenge.rw_qd0072_01.row.prog w) (ktrTop dp un gd (Str.ofString "Machine.run") sc L 710 (.ref 709) [] outer) (call (.ref 724) [.ref mx, .ref fx, .str opS tq, worth]) (fun _ s => P s) E (SH o h' tk')) :
    WT PySem.Challenge.rw_qd0072_01.row.prog w (ktrTop dp un gd (Str.ofString "Machine.run") sc L 710 (.ref 709) [] outer) (envX (Str.ofString "Machine.run") sc L 710 (.ref 709) []) (whTest bd.tail) (whBody bd.tail) Q E P (SH o h k) := by
  refine runTurn0 (rest := news.filter fun q => q.1 != fd) e1 e2 (fun p hp => by simpa using (List.mem_filter.mp hp).2) B F X (news_front N hx hr) T hdp hun (all4 hM.1 hM.2.1 hM.2.2 rfl) hlen hz h0 h1 hcq hop hst ?_
  intro i h' tk' t1 m' F' N' hm' hs'
  have e : m' = runM m m' (z + 1) t1 := funext fun y => by
    by_cases y1 : y = Str.ofString "at"
    · subst y1
      exact hm' (Str.ofString "at", .int (z + 1) t1) (.tail _ (.tail _ (.tail _ (.head _))))
    · cases y2 : [Str.ofString "op", Str.ofString "worth"].contains y with
      | true =>
        simp only [runM, kstB, y2]
        simp [y1]
      | false => exact (hs' y (fun p hp => by rw [List.mem_singleton.mp hp]; exact y1) y2).trans ((runM_same y1 y2).trans (runM_same y1 y2).symm)
  rw [e] at F'
  exact hc i h' tk' t1 m' F' (news_back (reads := [(fx, instObj 684 fd), (mx, instObj 760 md), (md, mcD w tmq most tmr), (cx, W.listOf codeL.toArray nc), (q, tupOf [.str opS tq, worth])]) (U i) N')
/-- the loop of Machine.run ends -/
theorem runExit (e1 : scopeAt w 710 = sc) (e2 : stmtsAt w 710 = bd) (hdp : dp + 8 ≤ recursionLimit) (hun : un + 60 < cLine + 3)
    (B : Below A₀ base outer g) (F : Fr g L h (runM m u z ti)) (X : (Mine.K w.params).In g) (N₀ : News g L h news) (hcx : (cx, W.listOf codeL.toArray nc) ∈ news) (T : Top p loose mean mg mb g) (hM : selfCodeFrame mx cx fx m)
    (hlen : codeL.length = kc) (hz : kc ≤ 5000) (h1 : z = kc) (hq : ∀ tk', Q .next (SH o h tk')) :
    WT PySem.Challenge.rw_qd0072_01.row.prog w (ktrTop dp un gd (Str.ofString "Machine.run") sc L 710 (.ref 709) [] outer) (envX (Str.ofString "Machine.run") sc L 710 (.ref 709) []) (whTest bd.tail) (whBody bd.tail) Q E P (SH o h k) := by
  have he : FnEnv (envX (Str.ofString "Machine.run") sc L 710 (.ref 709) []) L := ⟨_, _, _, _, _, rfl, by rw [← e1]; rfl⟩
  refine' with_lit (w := w) (f := 710) ?ho ?kk
  case ho => k_is
  case' kk => intro f1 f2
  obtain rfl := e1.symm.trans f1
  obtain rfl := e2.symm.trans f2
  clear f1 f2
  dsimp only [whTest, whBody, List.tail]
  have hMk : KstMark := kstMark
  have N : News g L h [(cx, W.listOf codeL.toArray nc)] := fun q hq => by rw [List.mem_singleton.mp hq]; exact N₀ _ hcx
  clear N₀ hcx
  have h4 := all4 (m := runM m u z ti) (a := (Str.ofString "self", Value.ref mx)) (b := (Str.ofString "code", Value.ref cx)) (c := (Str.ofString "frame", Value.ref fx)) (d := (Str.ofString "at", Value.int z ti)) hM.1 hM.2.1 hM.2.2 rfl
  generalize runM m u z ti = mm at F h4
  have e : kstB mm [(Str.ofString "self", Value.ref mx), (Str.ofString "code", Value.ref cx), (Str.ofString "frame", Value.ref fx), (Str.ofString "at", Value.int z ti)] = mm := funext fun y => kstB_eq h4 fun _ => rfl
  have F0 := F
  clear F
  have F : Fr g L h (kstB mm [(Str.ofString "self", Value.ref mx), (Str.ofString "code", Value.ref cx), (Str.ofString "frame", Value.ref fx), (Str.ofString "at", Value.int z ti)]) := by rw [e]; exact F0
  clear F0
  dsimp only [kstB] at F
  refine ⟨?_⟩
  show wpAny _ _ (isTrue (PySem.Expr.BoolOp _ _ _) _ _) _ _ _
  k_steps
  exact hq _
end
end
section
theorem regDW1 : True := by
  k_with "w call ref" => ((fail_if_success k_extra "off DW"); (((k_here; (with_reducible show wpAny _ _ (call (Value.ref 684) _) _ _ _); k_dflt (refine' call0 (mkFrame_d ) ?hzkB ?hzkF ?hzkX ?hzkN ?hzkT ?hzkk ?hzkd ?hzku ?_; k_extra "D com"); k_extra "D fin"))))
  k_with "w exec While BoolOp cons nil" => ((fail_if_success k_extra "off DW"); (((refine Halt.out ?_))))
  trivial
theorem runHead {w : World} {mx md cx vx nx : Addr} {own : Value} {most : Int} {tmq tmr : Tok}
    {dp un : Nat} {gd : Option (List Code)} {outer : List Env} {A₀ : Around} {base g : Heap} {L : Addr} {h : Heap} {o : Shared} {k : Nat} {p : Program} {loose : List Str} {mean : ExcName → Option Value} {mg mb : Str → Option Value} {E : Value → Shared → Prop} {Q : Flow → Shared → Prop} {news : Led}
    {sc : Scope} {bd : List Stmt} (e1 : scopeAt w 710 = sc) (e2 : stmtsAt w 710 = bd) (hdp : dp + 8 ≤ recursionLimit) (hun : un + 60 < cLine + 3)
    (B : Below A₀ base outer g) (F : Fr g L h (fun y => List.lookup y [(Str.ofString "self", Value.ref mx), (Str.ofString "code", Value.ref cx), (Str.ofString "values", Value.ref vx), (Str.ofString "names", Value.ref nx), (Str.ofString "control", Value.none), (Str.ofString "own", own)].reverse)) (X : (Mine.K w.params).In g) (N : News g L h news) (T : Top p loose mean mg mb g)
    (h1 : (mx, instObj 760 md) ∈ news) (h2 : (md, mcD w tmq most tmr) ∈ news)
    (H : ∀ (i : Addr × Addr × Addr × Tok × List Tok) h' tk' m' t0, AllF [i.1, i.2.1, i.2.2.1] news → Fr g L h' m' → News g L h' ((i.2.2.1, W.listOf #[] 0) :: (i.1, instObj 684 i.2.1) :: (i.2.1, frK w i.2.2.2.2 vx nx own i.2.2.1 0 i.2.2.2.1 most tmr) :: news) → selfCodeFrame mx cx i.1 m' → m' (Str.ofString "at") = some (.int 0 t0) → Q .next (SH o h' tk')) :
    wpAny (model PySem.Challenge.rw_qd0072_01.row.prog w) (ktrTop dp un gd (Str.ofString "Machine.run") sc L 710 (.ref 709) [] outer) (exec (bd.headD default) (envX (Str.ofString "Machine.run") sc L 710 (.ref 709) [])) Q E (SH o h k) := by
  have he : FnEnv (envX (Str.ofString "Machine.run") sc L 710 (.ref 709) []) L := ⟨_, _, _, _, _, rfl, by rw [← e1]; rfl⟩
  refine' with_lit (w := w) (f := 710) ?ho ?kk
  case ho => k_is
  case' kk => intro f1 f2
  obtain rfl := e1.symm.trans f1
  obtain rfl := e2.symm.trans f2
  clear f1 f2
  dsimp only [List.headD]
  have hMk : KstMark := kstMark
  k_steps
  rename Fr _ _ _ _ => F1
  rename News _ _ _ _ => N1
  exact H _ _ _ _ _ ⟨hA9a, hA9b, hA9c, trivial⟩ F1 (kst_newsOf N1 fun p hp => List.mem_cons_of_mem _ hp) ⟨rfl, rfl, rfl⟩ rfl
end
theorem offDW : True := by
  k_with "off DW" => skip
  trivial
section
theorem regR11 : True := by
  k_with "w call ref" => ((fail_if_success k_extra "off R1"); (((k_here; (with_reducible show wpAny _ _ (call (Value.ref 724) _) _ _ _); k_dflt (refine' call1 (fun rest hr => stepPush_d ?hzs0 rest hr) ?hzkB ?hzkF ?hzkX ?hzkN ?hzkT ?hzkk ?hzkd ?hzku ?hzkx ?hzkr ?hzkU ?_; k_extra "D com1"; (case hzs0 => k_extra "D side")); k_extra "D fin"))))
  trivial
section
variable {w : World} {mx md cx fx fd vx nx st : Addr} {own : Value} {tm tm2 : Tok} {ks : List Tok} {codeL dueL : List Value} {nc kz : Nat}
    {dp un : Nat} {gd : Option (List Code)} {outer : List Env} {A₀ : Around} {base g : Heap} {L : Addr} {h : Heap} {o : Shared} {k : Nat} {p : Program} {loose : List Str} {mean : ExcName → Option Value} {mg mb : Str → Option Value} {E : Value → Shared → Prop} {Q : Flow → Shared → Prop} {m : Str → Option Value}
    {sc : Scope} {bd : List Stmt}
noncomputable abbrev pushLed (w : World) (mx md cx fx fd vx nx st : Addr) (own : Value) (tm tm2 : Tok) (ks : List Tok) (codeL dueL : List Value) (nc : Nat) (tl : Led) (i : Nat) (c : Tok × Tok × Nat) : Led :=
  (st, W.listOf (dueL.take i).toArray c.2.2) :: (fx, instObj 684 fd) :: (fd, frK w ks vx nx own st (i : Int) c.2.1 4100 tm2) :: (mx, instObj 760 md) :: (md, mcD w tm 4100 tm2) :: (cx, W.listOf codeL.toArray nc) :: tl
/-- the turns of Machine.run that push -/
theorem runPushes (tl : Led) (e1 : scopeAt w 710 = sc) (e2 : stmtsAt w 710 = bd) (hdp : dp + 12 ≤ recursionLimit) (hun : un + 120 < cLine + 3) (hlen : codeL.length = kz + 2) (hk9 : kz ≤ 2001)
    (hq : ∀ i, i < kz → ∃ q t v, codeL[i]? = some (.ref q) ∧ dueL[i]? = some v ∧ (q, tupOf [.str (Str.ofString "push") t, v]) ∈ tl)
    (hfd : ∀ p ∈ tl, p.1 ≠ fd) (hst : ∀ p ∈ (cx, W.listOf codeL.toArray nc) :: tl, p.1 ≠ st)
    (B : Below A₀ base outer g) (X : (Mine.K w.params).In g) (T : Top p loose mean mg mb g) (j : Nat) (c₀ : Tok × Tok × Nat) (F : Fr g L h m) (N : News g L h (pushLed w mx md cx fx fd vx nx st own tm tm2 ks codeL dueL nc tl 0 c₀)) (hM : selfCodeFrame mx cx fx m) (hat : m (Str.ofString "at") = some (.int ((0 : Nat) : Int) c₀.1))
    (fin : ∀ (c : Tok × Tok × Nat) u h tk, Fr g L h (runM m u (kz : Int) c.1) → News g L h (pushLed w mx md cx fx fd vx nx st own tm tm2 ks codeL dueL nc tl kz c) → WN PySem.Challenge.rw_qd0072_01.row.prog w (ktrTop dp un gd (Str.ofString "Machine.run") sc L 710 (.ref 709) [] outer) (envX (Str.ofString "Machine.run") sc L 710 (.ref 709) []) (whTest bd.tail) (whBody bd.tail) Q E j (SH o h tk)) :
    WN PySem.Challenge.rw_qd0072_01.row.prog w (ktrTop dp un gd (Str.ofString "Machine.run") sc L 710 (.ref 709) [] outer) (envX (Str.ofString "Machine.run") sc L 710 (.ref 709) []) (whTest bd.tail) (whBody bd.tail) Q E (kz + j) (SH o h k) := by
  refine' WN.count kz j (pushLed w mx md cx fx fd vx nx st own tm tm2 ks codeL dueL nc tl) (fun i c => [(Str.ofString "at", .int (i : Int) c.1)]) [Str.ofString "op", Str.ofString "worth"] c₀ F N ?kk ?turn fin
  case kk => exact fun p hp => by
              rw [List.mem_singleton.mp hp]
              exact hat
  case turn =>
    clear F N fin
    intro i c u h3 tk3 hi F3 N3
    obtain ⟨q, tq, v, hcq, hdq, hmq⟩ := hq i hi
    have hcq : codeL[((i : Int)).toNat]? = some (.ref q) := hcq
    have hz : (dueL.take i).length ≤ 5000 := by rw [List.length_take]; omega
    have hst2 : ∀ p ∈ tl, p.1 ≠ st := fun p h => hst p (.tail _ h)
    have hst := Fresh.mk hst
    refine' runTurn e1 e2 (by omega) (by omega) B F3 X N3 T hM ?x ?r ?U hlen ?z ?z0 ?z1 hcq ?op ?zs ?c
    case x => k_mem
    case r => kcj_all
    case U => intro i9; k_upd
    case z => omega
    case z0 => omega
    case z1 => omega
    case op => exact (rfl : ([Str.ofString "jump", Str.ofString "unless", Str.ofString "when"].any (· == Str.ofString "push")) = false)
    case zs => omega
    case c =>
      intro i9 h9 tk9 t1 u9 F9 N9
      have hck : sc.kind = .function := by rw [← e1]; rfl
      have hMk : KstMark := kstMark
      k_steps
      rename News _ _ _ _ => NN
      have e1 : dueL.take (i + 1) = dueL.take i ++ [v] := by rw [List.take_add_one, hdq]; rfl
      rw [← e1] at NN
      exact TE.of (_, _, _) (by assumption) NN (fun p hp => hp) (by kst_all) (fun z h1 h2 => runM_same (h1 _ (.head _)) h2)
end
end
theorem offR1 : True := by
  k_with "off R1" => skip
  trivial
section
theorem regD31 : True := by
  k_with "w subscriptTail Name Slice ref ref" => ((fail_if_success k_extra "off D3"); (((k_here; (with_reducible show wpAny _ _ (subscriptTail _ (PySem.Expr.Slice _ _ none _) (Value.ref _) (Value.ref _)) _ _ _); k_dflt (refine' kms_slice_lit ?hzF ?hzN ?hzl ?hzp ?hzq ?hze ?_ ?hzs ?hzt ?hzz; (case hzF => k_asm); (case hzN => k_asm); (case hzl => kmk_list); (case hzp => kmk_part); (case hzq => kmk_part); (case hze => first | exact pick_from0 (by omega) | exact pick_upto0 (by omega)); (case hzs => with_unfolding_all rfl); (case hzt => kmk_pure); (case hzz => ((rw [PySem.sizeLine_eq]); (simp only [List.size_toArray]); omega))); intro D' h' F' N' l1; (try k_lt l1); (try k_sweep)))))
  k_with "w subscriptTail Attribute Slice ref ref" => ((fail_if_success k_extra "off D3"); (((k_here; (with_reducible show wpAny _ _ (subscriptTail _ (PySem.Expr.Slice _ _ none _) (Value.ref _) (Value.ref _)) _ _ _); k_dflt (refine' kms_slice_lit ?hzF ?hzN ?hzl ?hzp ?hzq ?hze ?_ ?hzs ?hzt ?hzz; (case hzF => k_asm); (case hzN => k_asm); (case hzl => kmk_list); (case hzp => kmk_part); (case hzq => kmk_part); (case hze => first | exact pick_from0 (by omega) | exact pick_upto0 (by omega)); (case hzs => with_unfolding_all rfl); (case hzt => kmk_pure); (case hzz => ((rw [PySem.sizeLine_eq]); (simp only [List.size_toArray]); omega))); intro D' h' F' N' l1; (try k_lt l1); (try k_sweep)))))
  k_with "w call ref" => ((fail_if_success k_extra "off D3"); (((k_here; (with_reducible show wpAny _ _ (call (Value.ref 534) _) _ _ _); k_dflt (refine' call0 (need_d ?hzs0) ?hzkB ?hzkF ?hzkX ?hzkN ?hzkT ?hzkk ?hzkd ?hzku ?_; k_extra "D com"; (case hzs0 => k_extra "D side")); k_extra "D fin"))))
  trivial
theorem popSome_d {w : World} {fx fd vx nx st : Addr} {k1 k2 k3 k4 k5 k6 k7 k8 : Tok} {own : Value} {steps most : Int} {ts tm tc : Tok} {xs : List Value} {n k : Nat} (hx : xs.length = k) (hk9 : k ≤ 2001)
    (rest : Led) (hr : ∀ p ∈ rest, p.1 ≠ fd) :
    Ct w 674 [.ref fx, .int k tc] 4 40 ((fd, frD w k1 k2 k3 k4 k5 k6 k7 k8 vx nx own st steps ts most tm) :: ([(fx, instObj 684 fd), (st, W.listOf xs.toArray n)] ++ rest))
      (R1 (ι := Addr × Addr) (fun i => i.1 ≠ i.2) (fun i => [i.1, i.2]) (fun i => .ref i.1) ((fd, frD w k1 k2 k3 k4 k5 k6 k7 k8 vx nx own st steps ts most tm) :: ([(fx, instObj 684 fd), (st, W.listOf xs.toArray n)] ++ rest)) (fun i => [(i.2, W.listOf #[] 0), (i.1, W.listOf xs.toArray 0)] ++ (fd, frD w k1 k2 k3 k4 k5 k6 k7 k8 vx nx own i.2 steps ts most tm) :: ([(fx, instObj 684 fd), (st, W.listOf xs.toArray n)] ++ rest))) := by
  dsimp only [List.cons_append, List.nil_append]
  refine' Ct.of [(Str.ofString "self", .ref fx), (Str.ofString "count", .int k tc)] ?ho ?hcd ?hb ?hl ?hco ?hg ?hk ?hc ?bd
  case ho => k_is
  case hcd => k_is
  case hb => exact fun s9 X9 => by first | exact BindsTo.of_eq rfl | exact binds_K X9 rfl (by k_is) rfl rfl rfl
  case hl => exact locs rfl
  case hco => rfl
  case hg => rfl
  case hk => rfl
  case hc => rfl
  case' bd => (intro dp un gd outer A₀ base g L h o k p loose mean mg mb E B F X N T hdp hun he hE; k_fold; have hEO := envOk he (by kernel_rfl); (try have hBO := bindsOk F (by kernel_rfl)); have hMk : KstMark := kstMark)
  k_steps
  rename _ ∧ _ ∧ _ ∧ _ ∧ AllLt _ _ => l2
  rename _ ∧ _ ∧ _ ∧ AllLt _ _ => l1
  exact R1.ret' (_, _) (Nat.ne_of_lt l2.1) (fresh2 (fresh_lt l1) (fresh_lt l2.2)) (by assumption) (by assumption) rfl
theorem isNumT_d {w : World} {tp : Addr} {xs : List Value} {news : Led} (hm : (tp, tupOf xs) ∈ news) :
    Ct w 471 [.ref tp] 2 20 news (R1 (ι := Unit) (fun _ => True) (fun _ => []) (fun _ => .bool false) news (fun _ => [] ++ news)) := by
  refine' Ct.of [(Str.ofString "value", .ref tp)] ?ho ?hcd ?hb ?hl ?hco ?hg ?hk ?hc ?bd
  case ho => k_is
  case hcd => k_is
  case hb => exact fun s9 X9 => by first | exact BindsTo.of_eq rfl | exact binds_K X9 rfl (by k_is) rfl rfl rfl
  case hl => exact locs rfl
  case hco => rfl
  case hg => rfl
  case hk => rfl
  case hc => rfl
  case' bd => (intro dp un gd outer A₀ base g L h o k p loose mean mg mb E B F X N T hdp hun he hE; k_fold; have hEO := envOk he (by kernel_rfl); (try have hBO := bindsOk F (by kernel_rfl)); have hMk : KstMark := kstMark)
  k_steps
  exact R1.ret' () trivial nofresh (by assumption) (by assumption) rfl
theorem regD32 : True := by
  k_with "w call ref" => ((fail_if_success k_extra "off D3"); (((k_here; (with_reducible show wpAny _ _ (call (Value.ref 471) _) _ _ _); k_dflt (refine' call0 (isNumT_d ?hzs0) ?hzkB ?hzkF ?hzkX ?hzkN ?hzkT ?hzkk ?hzkd ?hzku ?_; k_extra "D com"; (case hzs0 => k_extra "D side")); k_extra "D fin"))))
  trivial
theorem boundedL_d {w : World} {tp : Addr} {xs : List Value} {k : Nat} {news : Led} (hx : xs.length = k) (hk9 : k ≤ 2000) (hm : (tp, tupOf xs) ∈ news) :
    Ct w 485 [.ref tp] 4 40 news (R1 (ι := Unit) (fun _ => True) (fun _ => []) (fun _ => .ref tp) news (fun _ => [] ++ news)) := by
  refine' Ct.of [(Str.ofString "value", .ref tp)] ?ho ?hcd ?hb ?hl ?hco ?hg ?hk ?hc ?bd
  case ho => k_is
  case hcd => k_is
  case hb => exact fun s9 X9 => by first | exact BindsTo.of_eq rfl | exact binds_K X9 rfl (by k_is) rfl rfl rfl
  case hl => exact locs rfl
  case hco => rfl
  case hg => rfl
  case hk => rfl
  case hc => rfl
  case' bd => (intro dp un gd outer A₀ base g L h o k p loose mean mg mb E B F X N T hdp hun he hE; k_fold; have hEO := envOk he (by kernel_rfl); (try have hBO := bindsOk F (by kernel_rfl)); have hMk : KstMark := kstMark)
  k_steps
  exact R1.ret' () trivial nofresh (by assumption) (by assumption) rfl
theorem regD33 : True := by
  k_with "w call ref" => ((fail_if_success k_extra "off D3"); (((k_here; (with_reducible show wpAny _ _ (call (Value.ref 485) _) _ _ _); k_dflt (refine' call0 (boundedL_d ?hzs0 ?hzs1 ?hzs2) ?hzkB ?hzkF ?hzkX ?hzkN ?hzkT ?hzkk ?hzkd ?hzku ?_; k_extra "D com"; (case hzs2 => k_extra "D side"); (case hzs1 => k_extra "D side"); (case hzs0 => k_extra "D side")); k_extra "D fin"))))
  k_with "w call ref" => ((fail_if_success k_extra "off D3"); (((k_here; (with_reducible show wpAny _ _ (call (Value.ref 674) _) _ _ _); k_dflt (refine' call1 (fun rest hr => popSome_d ?hzs0 ?hzs1 rest hr) ?hzkB ?hzkF ?hzkX ?hzkN ?hzkT ?hzkk ?hzkd ?hzku ?hzkx ?hzkr ?hzkU ?_; k_extra "D com1"; (case hzs1 => k_extra "D side"); (case hzs0 => k_extra "D side")); k_extra "D fin"))))
  k_with "w call ref" => ((fail_if_success k_extra "off D3"); (((k_here; (with_reducible show wpAny _ _ (call (Value.ref 660) _) _ _ _); k_dflt (refine' call1 (fun rest hr => fpush_d ?hzs0 rest hr) ?hzkB ?hzkF ?hzkX ?hzkN ?hzkT ?hzkk ?hzkd ?hzku ?hzkx ?hzkr ?hzkU ?_; k_extra "D com1"; (case hzs0 => k_extra "D side")); k_extra "D fin"))))
  trivial
theorem stepList_d {w : World} {mx fx fd vx nx st : Addr} {k1 k2 k3 k4 k5 k6 k7 k8 : Tok} {own : Value} {steps most : Int} {ts tm tc t0 : Tok} {xs : List Value} {n k : Nat} (hx : xs.length = k) (hk9 : k ≤ 2000)
    (rest : Led) (hr : ∀ p ∈ rest, p.1 ≠ fd) :
    Ct w 724 [.ref mx, .ref fx, .str (Str.ofString "list") t0, .int k tc] 8 80 ((fd, frD w k1 k2 k3 k4 k5 k6 k7 k8 vx nx own st steps ts most tm) :: ([(fx, instObj 684 fd), (st, W.listOf xs.toArray n)] ++ rest))
      (R1 (ι := Addr × Addr) (fun _ => True) (fun i => [i.1]) (fun _ => .none) ((fd, frD w k1 k2 k3 k4 k5 k6 k7 k8 vx nx own st steps ts most tm) :: ([(fx, instObj 684 fd), (st, W.listOf xs.toArray n)] ++ rest)) (fun i => [(i.2, tupOf xs), (i.1, W.listOf #[.ref i.2] 1)] ++ (fd, frD w k1 k2 k3 k4 k5 k6 k7 k8 vx nx own i.1 steps ts most tm) :: ([(fx, instObj 684 fd), (st, W.listOf xs.toArray n)] ++ rest))) := by
  dsimp only [List.cons_append, List.nil_append]
  refine' Ct.of [(Str.ofString "self", .ref mx), (Str.ofString "frame", .ref fx), (Str.ofString "op", .str (Str.ofString "list") t0), (Str.ofString "worth", .int k tc)] ?ho ?hcd ?hb ?hl ?hco ?hg ?hk ?hc ?bd
  case ho => k_is
  case hcd => k_is
  case hb => exact fun s9 X9 => by first | exact BindsTo.of_eq rfl | exact binds_K X9 rfl (by k_is) rfl rfl rfl
  case hl => exact locs rfl
  case hco => rfl
  case hg => rfl
  case hk => rfl
  case hc => rfl
  case' bd => (intro dp un gd outer A₀ base g L h o k p loose mean mg mb E B F X N T hdp hun he hE; k_fold; have hEO := envOk he (by kernel_rfl); (try have hBO := bindsOk F (by kernel_rfl)); have hMk : KstMark := kstMark)
  k_steps
  rename _ ∧ _ ∧ _ ∧ _ ∧ _ ∧ AllLt _ _ => l1
  exact R1.next (_, _) trivial (fresh1 (Fresh.go (by assumption))) (by assumption) (by assumption) rfl (by kcj_all)
end
theorem offD3 : True := by
  k_with "off D3" => skip
  trivial
section
theorem regD41 : True := by
  k_with "w call ref" => ((fail_if_success k_extra "off D4"); (((k_here; (with_reducible show wpAny _ _ (call (Value.ref 534) _) _ _ _); k_dflt (refine' call0 (need_d ?hzs0) ?hzkB ?hzkF ?hzkX ?hzkN ?hzkT ?hzkk ?hzkd ?hzku ?_; k_extra "D com"; (case hzs0 => k_extra "D side")); k_extra "D fin"))))
  trivial
theorem pop_d {w : World} {fx fd vx nx st : Addr} {k1 k2 k3 k4 k5 k6 k7 k8 : Tok} {own v : Value} {steps most : Int} {ts tm : Tok} {n : Nat}
    (rest : Led) (hr : ∀ p ∈ rest, p.1 ≠ st) :
    Ct w 667 [.ref fx] 4 40 ((st, W.listOf #[v] n) :: ([(fx, instObj 684 fd), (fd, frD w k1 k2 k3 k4 k5 k6 k7 k8 vx nx own st steps ts most tm)] ++ rest))
      (R1 (ι := Nat) (fun _ => True) (fun _ => []) (fun _ => v) ((st, W.listOf #[v] n) :: ([(fx, instObj 684 fd), (fd, frD w k1 k2 k3 k4 k5 k6 k7 k8 vx nx own st steps ts most tm)] ++ rest)) (fun i => [] ++ (st, W.listOf #[] i) :: ([(fx, instObj 684 fd), (fd, frD w k1 k2 k3 k4 k5 k6 k7 k8 vx nx own st steps ts most tm)] ++ rest))) := by
  dsimp only [List.cons_append, List.nil_append]
  refine' Ct.of [(Str.ofString "self", .ref fx)] ?ho ?hcd ?hb ?hl ?hco ?hg ?hk ?hc ?bd
  case ho => k_is
  case hcd => k_is
  case hb => exact fun s9 X9 => by first | exact BindsTo.of_eq rfl | exact binds_K X9 rfl (by k_is) rfl rfl rfl
  case hl => exact locs rfl
  case hco => rfl
  case hg => rfl
  case hk => rfl
  case hc => rfl
  case' bd => (intro dp un gd outer A₀ base g L h o k p loose mean mg mb E B F X N T hdp hun he hE; k_fold; have hEO := envOk he (by kernel_rfl); (try have hBO := bindsOk F (by kernel_rfl)); have hMk : KstMark := kstMark)
  k_steps
  exact R1.ret _ trivial nofresh (by assumption) (by assumption) rfl (by kcj_all)
theorem regD42 : True := by
  k_with "w call ref" => ((fail_if_success k_extra "off D4"); (((k_here; (with_reducible show wpAny _ _ (call (Value.ref 667) _) _ _ _); k_dflt (refine' call1 (fun rest hr => pop_d  rest hr) ?hzkB ?hzkF ?hzkX ?hzkN ?hzkT ?hzkk ?hzkd ?hzku ?hzkx ?hzkr ?hzkU ?_; k_extra "D com1"); k_extra "D fin"))))
  trivial
theorem store_d {w : World} {mx fx fd vx nx st : Addr} {k1 k2 k3 k4 k5 k6 k7 k8 : Tok} {own v worth : Value} {steps most : Int} {ts tm t0 : Tok} {n : Nat}
    (rest : Led) (hr : ∀ p ∈ rest, p.1 ≠ st) (hr2 : ∀ p ∈ rest, p.1 ≠ fd) :
    Ct w 731 [.ref mx, .ref fx, .str (Str.ofString "set") t0, worth] 6 60 ((st, W.listOf #[v] n) :: (fd, frD w k1 k2 k3 k4 k5 k6 k7 k8 vx nx own st steps ts most tm) :: ([(fx, instObj 684 fd)] ++ rest))
      (R1 (ι := Nat) (fun _ => True) (fun _ => []) (fun _ => .none) ((st, W.listOf #[v] n) :: (fd, frD w k1 k2 k3 k4 k5 k6 k7 k8 vx nx own st steps ts most tm) :: ([(fx, instObj 684 fd)] ++ rest)) (fun i => [] ++ (st, W.listOf #[] i) :: (fd, frD w k1 k2 k3 k4 k5 k6 k7 k8 vx nx v st steps ts most tm) :: ([(fx, instObj 684 fd)] ++ rest))) := by
  dsimp only [List.cons_append, List.nil_append]
  refine' Ct.of [(Str.ofString "self", .ref mx), (Str.ofString "frame", .ref fx), (Str.ofString "op", .str (Str.ofString "set") t0), (Str.ofString "worth", worth)] ?ho ?hcd ?hb ?hl ?hco ?hg ?hk ?hc ?bd
  case ho => k_is
  case hcd => k_is
  case hb => exact fun s9 X9 => by first | exact BindsTo.of_eq rfl | exact binds_K X9 rfl (by k_is) rfl rfl rfl
  case hl => exact locs rfl
  case hco => rfl
  case hg => rfl
  case hk => rfl
  case hc => rfl
  case' bd => (intro dp un gd outer A₀ base g L h o k p loose mean mg mb E B F X N T hdp hun he hE; k_fold; have hEO := envOk he (by kernel_rfl); (try have hBO := bindsOk F (by kernel_rfl)); have hMk : KstMark := kstMark)
  k_steps
  exact R1.next _ trivial nofresh (by assumption) (by assumption) rfl (by kcj_all)
end
theorem offD4 : True := by
  k_with "off D4" => skip
  trivial
section
theorem regD51 : True := by
  k_with "w call ref" => ((fail_if_success k_extra "off D5"); (((k_here; (with_reducible show wpAny _ _ (call (Value.ref 731) _) _ _ _); k_dflt (refine' call2 (fun rest hr hr2 => store_d  rest hr hr2) ?hzkB ?hzkF ?hzkX ?hzkN ?hzkT ?hzkk ?hzkd ?hzku ?hzkx ?hzky ?hzkr ?hzkU ?hzkV ?_; k_extra "D com2"); k_extra "D fin"))))
  trivial
theorem stepSet_d {w : World} {mx md fx fd vx nx st : Addr} {k1 k2 k3 k4 k5 k6 k7 k8 : Tok} {own v worth : Value} {steps most : Int} {ts tm t0 tq tq2 : Tok} {mq : Int} {n : Nat}
    (rest : Led) (hr : ∀ p ∈ rest, p.1 ≠ st) (hr2 : ∀ p ∈ rest, p.1 ≠ fd) :
    Ct w 724 [.ref mx, .ref fx, .str (Str.ofString "set") t0, worth] 8 80 ((st, W.listOf #[v] n) :: (fd, frD w k1 k2 k3 k4 k5 k6 k7 k8 vx nx own st steps ts most tm) :: ([(fx, instObj 684 fd), (mx, instObj 760 md), (md, mcD w tq mq tq2)] ++ rest))
      (R1 (ι := Nat) (fun _ => True) (fun _ => []) (fun _ => .none) ((st, W.listOf #[v] n) :: (fd, frD w k1 k2 k3 k4 k5 k6 k7 k8 vx nx own st steps ts most tm) :: ([(fx, instObj 684 fd), (mx, instObj 760 md), (md, mcD w tq mq tq2)] ++ rest)) (fun i => [] ++ (st, W.listOf #[] i) :: (fd, frD w k1 k2 k3 k4 k5 k6 k7 k8 vx nx v st steps ts most tm) :: ([(fx, instObj 684 fd), (mx, instObj 760 md), (md, mcD w tq mq tq2)] ++ rest))) := by
  dsimp only [List.cons_append, List.nil_append]
  refine' Ct.of [(Str.ofString "self", .ref mx), (Str.ofString "frame", .ref fx), (Str.ofString "op", .str (Str.ofString "set") t0), (Str.ofString "worth", worth)] ?ho ?hcd ?hb ?hl ?hco ?hg ?hk ?hc ?bd
  case ho => k_is
  case hcd => k_is
  case hb => exact fun s9 X9 => by first | exact BindsTo.of_eq rfl | exact binds_K X9 rfl (by k_is) rfl rfl rfl
  case hl => exact locs rfl
  case hco => rfl
  case hg => rfl
  case hk => rfl
  case hc => rfl
  case' bd => (intro dp un gd outer A₀ base g L h o k p loose mean mg mb E B F X N T hdp hun he hE; k_fold; have hEO := envOk he (by kernel_rfl); (try have hBO := bindsOk F (by kernel_rfl)); have hMk : KstMark := kstMark)
  k_steps
  exact R1.next _ trivial nofresh (by assumption) (by assumption) rfl (by kcj_all)
end
theorem offD5 : True := by
  k_with "off D5" => skip
  trivial
section
theorem R1.init2 {ι : Type} {P : ι → Prop} {ad : ι → List Addr} {val : ι → Value} {led₀ : Led} {led : ι → Led} {g h' : Heap} {L : Addr} {o : Shared} {m' : Str → Option Value} {k' : Nat} {v : Value} {l : Led} (i : ι) (hp : P i) (ha : ∀ a ∈ ad i, ∀ q ∈ led₀, q.1 ≠ a) (F : Fr g L h' m') (N : News g L h' l) (hv : v = val i) (hs : ∀ q ∈ led i, q ∈ l) :
    Ended (fun r l => r = .none ∧ R1 P ad val led₀ led v l) g L o .next (SH o h' k') := ⟨h', k', m', led i, rfl, ⟨rfl, i, hp, ha, hv, rfl⟩, F, fun q hq => N q (hs q hq)⟩
theorem inst_exc {h₀ h : Heap} {L x C D t : Addr} {od : Obj} {news : Led} (N : News h₀ L h news) (h1 : (x, excO C (some D) t) ∈ news) (h2 : (D, od) ∈ news) : W.InstAt h x (excO C (some D) t) C (some od) := ⟨(N _ h1).1, rfl, rfl, (N _ h2).1⟩
noncomputable abbrev excDi (w : World) (k1 k2 : Tok) (what at_ : Value) : Obj := dictOf [en w "what" k1 what, en w "at" k2 at_] 2
theorem regX31 : True := by
  k_with "w getMethod" => ((fail_if_success k_extra "off X3"); (((k_here; (with_reducible show wpAny _ _ (getMethod (Value.type _) _ _) _ _ _); k_dflt (refine' method_type ?hzk1 ?hzk2 ?hzk3 ?hzk4 ?hzk5 ?hzk6 ?_; (case hzk1 => k_asm); (case hzk2 => k_asm); (case hzk3 => rfl); (case hzk4 => first | rfl | decide +kernel); (case hzk5 => k_is); (case hzk6 => k_handed); k_whole)))))
  k_with "w call builtin:Exception.__init__" => ((fail_if_success k_extra "off X3"); (((k_here; (with_reducible show wpAny _ _ (call (Value.builtin _) (Value.ref _ :: _)) _ _ _); k_dflt (refine' exc_init (K := Mine.K _) ?hzF ?hzX ?hzN ?hzp ?hzU ?_ ?hzz; (case hzF => k_asm); (case hzX => k_asm); (case hzN => k_asm); (case hzU => k_updF); (case hzp => kts_isx); (case hzz => size_fits); k_whole); intro T' h' l1 F' N'; (have l2 := l1); (try simp only [AllLt, and_true] at l1); (try dsimp only at N'); (try k_sweep)))))
  k_with "w setAttr ref" => ((fail_if_success k_extra "off X3"); (((k_here; k_dflt (first | (refine' set_exc0 (P := 82) ?hzF ?hzX ?hzN ?hzk1 ?hzk2 ?hzk3 ?hzU ?_; (case hzF => k_asm); (case hzX => k_asm); (case hzN => k_asm); (case hzU => k_updF); (case hzk1 => k_is); (case hzk2 => kernel_rfl); (case hzk3 => k_is); k_whole; intro D' h' l1 F' N'; (have l2 := l1); (try simp only [AllLt, and_true] at l1); (try dsimp only at N'); (try k_sweep)) | (refine' set_excD (P := 82) ?hzk1 ?hzk2 ?hzk3 ?hzk4 ?hzk5 ?hzk6 ?hzk7 ?hzk8 ?hzk10 ?hzk11 ?hzk12 ?hzk13 ?_; (case hzk1 => k_asm); (case hzk2 => k_asm); (case hzk3 => k_asm); (case hzk4 => (refine' inst_exc ?hzN ?hzh1 ?hzh2; (case hzN => k_asm); (case hzh1 => k_mem); (case hzh2 => k_mem))); (case hzk5 => exact rfl); (case hzk6 => k_is); (case hzk7 => kernel_rfl); (case hzk8 => k_is); (case hzk10 => k_get); (case hzk11 => k_put); (case hzk12 => k_upd); (case hzk13 => exact Nat.le_of_ble_eq_true rfl); k_whole; intro h' F' N'; (try k_sweep)))))))
  trivial
theorem tinit_m {w : World} {x T : Addr} {what : Str} {tw : Tok} {news : Led} (l0 : ∀ p ∈ news, p.1 < T) (l9 : T < x) :
    Ct w 72 [.ref x, .str what tw] 12 120 ((x, excO 107 none T) :: (T, tupOf [.str what tw]) :: news)
      (fun r l => r = .none ∧ R1 (ι := Addr × Addr × Addr × Tok × Tok) (fun _ => True) (fun i => [i.1]) (fun i => .ref i.1) news (fun i => [(i.1, excO 107 (some i.2.1) i.2.2.1), (i.2.1, excDi w i.2.2.2.1 i.2.2.2.2 (.str what tw) .none)] ++ news) (.ref x) l) := by
  have hn : ∀ p ∈ news, p.1 ≠ x := fun p hp => Nat.ne_of_lt (Nat.lt_trans (l0 p hp) l9)
  have hne : T ≠ x := Nat.ne_of_lt l9
  have ff : Fresh x ((T, tupOf [.str what tw]) :: news) := ⟨fun q hq => (List.mem_cons.mp hq).elim (fun e => e ▸ hne) (hn q)⟩
  refine' Ct.of [(Str.ofString "self", .ref x), (Str.ofString "what", .str what tw), (Str.ofString "at", .none)] ?ho ?hcd ?hb ?hl ?hco ?hg ?hk ?hc ?bd
  case ho => k_is
  case hcd => k_is
  case hb => exact fun s9 X9 => by first | exact BindsTo.of_eq rfl | exact binds_K X9 rfl (by k_is) rfl rfl rfl
  case hl => exact locs rfl
  case hco => rfl
  case hg => rfl
  case hk => rfl
  case hc => rfl
  case' bd => (intro dp un gd outer A₀ base g L h o k p loose mean mg mb E B F X N T hdp hun he hE; k_fold; have hEO := envOk he (by kernel_rfl); (try have hBO := bindsOk F (by kernel_rfl)); have hMk : KstMark := kstMark)
  k_steps
  exact R1.init2 (_, _, _, _, _) trivial (fresh1 hn) (by assumption) (by assumption) rfl (by kcj_all)
theorem mk107 {w : World} {what : Str} {tw : Tok} {news : Led} :
    Ct w 107 [.str what tw] 13 130 news (R1 (ι := Addr × Addr × Addr × Tok × Tok) (fun _ => True) (fun i => [i.1]) (fun i => .ref i.1) news (fun i => [(i.1, excO 107 (some i.2.1) i.2.2.1), (i.2.1, excDi w i.2.2.2.1 i.2.2.2.2 (.str what tw) .none)] ++ news)) := by
  refine' Ct.makeX (fI := 72) ?a ?b ?c ?d ?e
  case a => kernel_rfl
  case b => k_is
  case c => kernel_rfl
  case d => (show 1 ≤ sizeLine; rw [PySem.sizeLine_eq]; decide)
  case e => exact fun _ _ l1 l2 => tinit_m l1 l2
end
theorem offX3 : True := by
  k_with "off X3" => skip
  trivial
section
theorem regB11 : True := by
  k_with "w subscriptTail Name Slice ref ref" => ((fail_if_success k_extra "off B1"); (((k_here; (with_reducible show wpAny _ _ (subscriptTail _ (PySem.Expr.Slice _ _ none _) (Value.ref _) (Value.ref _)) _ _ _); k_dflt (refine' kms_slice_lit ?hzF ?hzN ?hzl ?hzp ?hzq ?hze ?_ ?hzs ?hzt ?hzz; (case hzF => k_asm); (case hzN => k_asm); (case hzl => kmk_list); (case hzp => kmk_part); (case hzq => kmk_part); (case hze => first | exact pick_from0 (by omega) | exact pick_upto0 (by omega)); (case hzs => with_unfolding_all rfl); (case hzt => kmk_pure); (case hzz => ((rw [PySem.sizeLine_eq]); (simp only [List.size_toArray]); omega))); intro D' h' F' N' l1; (try k_lt l1); (try k_sweep)))))
  k_with "w subscriptTail Attribute Slice ref ref" => ((fail_if_success k_extra "off B1"); (((k_here; (with_reducible show wpAny _ _ (subscriptTail _ (PySem.Expr.Slice _ _ none _) (Value.ref _) (Value.ref _)) _ _ _); k_dflt (refine' kms_slice_lit ?hzF ?hzN ?hzl ?hzp ?hzq ?hze ?_ ?hzs ?hzt ?hzz; (case hzF => k_asm); (case hzN => k_asm); (case hzl => kmk_list); (case hzp => kmk_part); (case hzq => kmk_part); (case hze => first | exact pick_from0 (by omega) | exact pick_upto0 (by omega)); (case hzs => with_unfolding_all rfl); (case hzt => kmk_pure); (case hzz => ((rw [PySem.sizeLine_eq]); (simp only [List.size_toArray]); omega))); intro D' h' F' N' l1; (try k_lt l1); (try k_sweep)))))
  k_with "w call ref" => ((fail_if_success k_extra "off B1"); (((k_here; (with_reducible show wpAny _ _ (call (Value.ref 471) _) _ _ _); k_dflt (refine' call0 (isNumT_d ?hzs0) ?hzkB ?hzkF ?hzkX ?hzkN ?hzkT ?hzkk ?hzkd ?hzku ?_; k_extra "D com"; (case hzs0 => k_extra "D side")); k_extra "D fin"))))
  k_with "w call ref" => ((fail_if_success k_extra "off B1"); (((k_here; (with_reducible show wpAny _ _ (call (Value.ref 107) _) _ _ _); k_dflt (refine' call0 (mk107 ) ?hzkB ?hzkF ?hzkX ?hzkN ?hzkT ?hzkk ?hzkd ?hzku ?_; k_extra "D com"); k_extra "D fin"))))
  k_with "w exec Raise some none" => ((fail_if_success k_extra "off B1"); (((k_here; k_dflt (refine' raise_stmt (K := Mine.K _) (C := 107) (P := 82) ?hzhh ?hzX ?hzhk ?_; (case hzhh => rfl); (case hzX => k_asm); (case hzhk => kernel_rfl); k_whole)))))
  trivial
theorem bounded_x {w : World} {tp : Addr} {xs : List Value} {k : Nat} {news : Led} (hx : xs.length = k) (hk8 : k ≤ 2001) (hk9 : 2000 < k) (hm : (tp, tupOf xs) ∈ news) :
    CtB w 485 [.ref tp] 20 200 news (R1 (ι := Unit) (fun _ => k ≤ 2000) (fun _ => []) (fun _ => .ref tp) news (fun _ => [] ++ news)) 107 (ι := PLift (2000 < k)) (fun _ _ _ => news) := by
  refine' CtB.of [(Str.ofString "value", .ref tp)] ?ho ?hcd ?hb ?hl ?hco ?hg ?hk ?hc ?bd
  case ho => k_is
  case hcd => k_is
  case hb => exact fun s9 X9 => by first | exact BindsTo.of_eq rfl | exact binds_K X9 rfl (by k_is) rfl rfl rfl
  case hl => exact locs rfl
  case hco => rfl
  case hg => rfl
  case hk => rfl
  case hc => rfl
  case' bd => (intro dp un gd outer A₀ base g L h o k p loose mean mg mb E B F X N T hdp hun he hE OX; k_fold; have hEO := envOk he (by kernel_rfl); (try have hBO := bindsOk F (by kernel_rfl)); have hMk : KstMark := kstMark)
  k_steps
  refine raises_d OX F9 N9 rfl ⟨hk9⟩ (by k_mem) ?_
  exact fun q hq => ⟨List.mem_cons_of_mem _ (List.mem_cons_of_mem _ hq), hA9a.go q hq⟩
theorem bounded_b {w : World} {tp : Addr} {xs : List Value} {k : Nat} {news : Led} (hx : xs.length = k) (hk8 : k ≤ 2001) (hm : (tp, tupOf xs) ∈ news) :
    CtB w 485 [.ref tp] 20 200 news (R1 (ι := Unit) (fun _ => k ≤ 2000) (fun _ => []) (fun _ => .ref tp) news (fun _ => [] ++ news)) 107 (ι := PLift (2000 < k)) (fun _ _ _ => news) :=
  (Nat.lt_or_ge 2000 k).elim (fun hk9 => bounded_x hx hk8 hk9 hm) fun hk9 => ((boundedL_d hx hk9 hm).up (by decide) (by decide)).b fun r l h => h.mono fun _ _ => hk9
theorem regB12 : True := by
  k_with "w call ref" => ((fail_if_success k_extra "off B1"); (((k_here; (with_reducible show wpAny _ _ (call (Value.ref 485) _) _ _ _); k_dflt (refine' callB0 (bounded_b ?hzs0 ?hzs1 ?hzs2) ?hzkB ?hzkF ?hzkX ?hzkN ?hzkT ?hzkk ?hzkd ?hzku ?hzkO ?hzkp ?_; (case hzs0 => assumption); k_extra "D com"; (case hzs2 => k_extra "D side"); (case hzs1 => k_extra "D side"); (case hzkO => k_extra "B out"); (case hzkp => k_extra "B keep")); k_extra "D fin"))))
  k_with "w call ref" => ((fail_if_success k_extra "off B1"); (((k_here; (with_reducible show wpAny _ _ (call (Value.ref 674) _) _ _ _); k_dflt (refine' call1 (fun rest hr => popSome_d ?hzs0 ?hzs1 rest hr) ?hzkB ?hzkF ?hzkX ?hzkN ?hzkT ?hzkk ?hzkd ?hzku ?hzkx ?hzkr ?hzkU ?_; k_extra "D com1"; (case hzs1 => k_extra "D side"); (case hzs0 => k_extra "D side")); k_extra "D fin"))))
  k_with "w call ref" => ((fail_if_success k_extra "off B1"); (((k_here; (with_reducible show wpAny _ _ (call (Value.ref 660) _) _ _ _); k_dflt (refine' call1 (fun rest hr => fpush_d ?hzs0 rest hr) ?hzkB ?hzkF ?hzkX ?hzkN ?hzkT ?hzkk ?hzkd ?hzku ?hzkx ?hzkr ?hzkU ?_; k_extra "D com1"; (case hzs0 => k_extra "D side")); k_extra "D fin"))))
  trivial
theorem stepList_b {w : World} {mx fx fd vx nx st : Addr} {k1 k2 k3 k4 k5 k6 k7 k8 : Tok} {own : Value} {steps most : Int} {ts tm tc t0 : Tok} {xs : List Value} {n k : Nat} (hx : xs.length = k) (hk8 : k ≤ 2001)
    (rest : Led) (hr : ∀ p ∈ rest, p.1 ≠ fd) :
    CtB w 724 [.ref mx, .ref fx, .str (Str.ofString "list") t0, .int k tc] 26 300 ((fd, frD w k1 k2 k3 k4 k5 k6 k7 k8 vx nx own st steps ts most tm) :: ([(fx, instObj 684 fd), (st, W.listOf xs.toArray n)] ++ rest))
      (R1 (ι := Addr × Addr) (fun _ => k ≤ 2000) (fun i => [i.1]) (fun _ => .none) ((fd, frD w k1 k2 k3 k4 k5 k6 k7 k8 vx nx own st steps ts most tm) :: ([(fx, instObj 684 fd), (st, W.listOf xs.toArray n)] ++ rest)) (fun i => [(i.2, tupOf xs), (i.1, W.listOf #[.ref i.2] 1)] ++ (fd, frD w k1 k2 k3 k4 k5 k6 k7 k8 vx nx own i.1 steps ts most tm) :: ([(fx, instObj 684 fd), (st, W.listOf xs.toArray n)] ++ rest)))
      107 (ι := PLift (2000 < k)) (fun _ _ _ => rest) := by
  dsimp only [List.cons_append, List.nil_append]
  refine' CtB.of [(Str.ofString "self", .ref mx), (Str.ofString "frame", .ref fx), (Str.ofString "op", .str (Str.ofString "list") t0), (Str.ofString "worth", .int k tc)] ?ho ?hcd ?hb ?hl ?hco ?hg ?hk ?hc ?bd
  case ho => k_is
  case hcd => k_is
  case hb => exact fun s9 X9 => by first | exact BindsTo.of_eq rfl | exact binds_K X9 rfl (by k_is) rfl rfl rfl
  case hl => exact locs rfl
  case hco => rfl
  case hg => rfl
  case hk => rfl
  case hc => rfl
  case' bd => (intro dp un gd outer A₀ base g L h o k p loose mean mg mb E B F X N T hdp hun he hE OX; k_fold; have hEO := envOk he (by kernel_rfl); (try have hBO := bindsOk F (by kernel_rfl)); have hMk : KstMark := kstMark)
  k_steps
  rename _ ∧ _ ∧ _ ∧ _ ∧ _ ∧ AllLt _ _ => l1
  exact R1.next (_, _) (by assumption) (fresh1 (Fresh.go (by assumption))) (by assumption) (by assumption) rfl (by kcj_all)
end
theorem offB1 : True := by
  k_with "off B1" => skip
  trivial
section
theorem regB21 : True := by
  k_with "w call ref" => ((fail_if_success k_extra "off B2"); (((k_here; (with_reducible show wpAny _ _ (call (Value.ref 724) _) _ _ _); k_dflt (refine' callB1 (fun rest hr => stepList_b ?hzs0 ?hzs1 rest hr) ?hzkB ?hzkF ?hzkX ?hzkN ?hzkT ?hzkk ?hzkd ?hzku ?hzkO ?hzkx ?hzkr ?hzkU ?hzkp ?_; k_extra "D com1"; (case hzs1 => k_extra "D side"); (case hzs0 => k_extra "D side"); (case hzkO => k_extra "B out"); (case hzkp => exact fun rest9 h9 i => ⟨i, fun _ _ q hq => h9 q (by (repeat' (first | exact hq | refine List.mem_cons_of_mem _ ?_))) (hfd q hq)⟩)); k_extra "D fin"))))
  k_with "w call ref" => ((fail_if_success k_extra "off B2"); (((k_here; (with_reducible show wpAny _ _ (call (Value.ref 724) _) _ _ _); k_dflt (refine' call2 (fun rest hr hr2 => stepSet_d  rest hr hr2) ?hzkB ?hzkF ?hzkX ?hzkN ?hzkT ?hzkk ?hzkd ?hzku ?hzkx ?hzky ?hzkr ?hzkU ?hzkV ?_; k_extra "D com2"); k_extra "D fin"))))
  trivial
theorem run_b {w : World} {mx md cx vx nx ql qs : Addr} {own : Value} {tm tm2 tq1 tq2 tq3 : Tok} {codeL dueL : List Value} {nc kz : Nat} (tl : Led) (hk9 : kz ≤ 2001) (hlen : codeL.length = kz + 2) (hdl : dueL.length = kz)
    (hq : ∀ i, i < kz → ∃ q t v, codeL[i]? = some (.ref q) ∧ dueL[i]? = some v ∧ (q, tupOf [.str (Str.ofString "push") t, v]) ∈ tl)
    (hql : codeL[kz]? = some (.ref ql)) (hql2 : (ql, tupOf [.str (Str.ofString "list") tq1, .int kz tq2]) ∈ tl) (hqs : codeL[kz + 1]? = some (.ref qs)) (hqs2 : (qs, tupOf [.str (Str.ofString "set") tq3, .none]) ∈ tl) :
    CtB w 710 [.ref mx, .ref cx, .ref vx, .ref nx, .none, own] 30 360 ((mx, instObj 760 md) :: (md, mcD w tm 4100 tm2) :: (cx, W.listOf codeL.toArray nc) :: tl)
      (R1 (ι := Addr) (fun _ => kz ≤ 2000) (fun _ => []) (fun i => .ref i) ((mx, instObj 760 md) :: (md, mcD w tm 4100 tm2) :: (cx, W.listOf codeL.toArray nc) :: tl) (fun i => [(i, tupOf dueL)] ++ ((mx, instObj 760 md) :: (md, mcD w tm 4100 tm2) :: (cx, W.listOf codeL.toArray nc) :: tl)))
      107 (ι := PLift (2000 < kz)) (fun _ _ _ => tl) := by
  refine' with_lit (w := w) (f := 710) ?ho0 ?kk0
  case ho0 => k_is
  case' kk0 => intro e1 e2
  refine' CtB.of [(Str.ofString "self", .ref mx), (Str.ofString "code", .ref cx), (Str.ofString "values", .ref vx), (Str.ofString "names", .ref nx), (Str.ofString "control", .none), (Str.ofString "own", own)] ?ho ?hcd ?hb ?hl ?hco ?hg ?hk ?hc ?bd
  case ho => k_is
  case hcd => k_is
  case hb => exact fun s9 X9 => by first | exact BindsTo.of_eq rfl | exact binds_K X9 rfl (by k_is) rfl rfl rfl
  case hl => exact locs rfl
  case hco => rfl
  case hg => rfl
  case hk => rfl
  case hc => rfl
  case' bd => (intro dp un gd outer A₀ base g L h o k p loose mean mg mb E B F X N T hdp hun he hE OX; k_fold; have hEO := envOk he (by kernel_rfl); (try have hBO := bindsOk F (by kernel_rfl)); have hMk : KstMark := kstMark)
  refine wpAny_execs_cons (runHead e1 e2 (by omega) (by omega) B F X N T (.head _) (.tail _ (.head _)) fun i9 h9 tk9 m9 t0 hA F1 N1 hM hat => ?_)
  obtain ⟨hA9a, hA9b, hA9c, -⟩ := hA
  have hfd : ∀ p ∈ tl, p.1 ≠ i9.2.1 := fun p hp => hA9b.go p (.tail _ (.tail _ (.tail _ hp)))
  have hst : ∀ p ∈ (cx, W.listOf codeL.toArray nc) :: tl, p.1 ≠ i9.2.2.1 := fun p hp => hA9c.go p (.tail _ (.tail _ hp))
  refine wpAny_execs_cons (while_wn (kz + 3) ?_ hE)
  refine runPushes tl e1 e2 (by omega) (by omega) hlen (by omega) hq hfd hst B X T 3 (t0, i9.2.2.2.1, 0) F1 (kst_newsOf N1 (by kcj_all)) hM hat ?_
  clear F1 N1 F N hat hq
  intro c u h3 tk3 F3 N3
  dsimp only [pushLed] at N3
  rw [List.take_of_length_le (by omega)] at N3
  have hst2 : ∀ p ∈ tl, p.1 ≠ i9.2.2.1 := fun p h => hst p (.tail _ h)
  have hst := Fresh.mk hst
  have hcq : codeL[((kz : Int)).toNat]? = some (.ref ql) := hql
  have hcs : codeL[((kz : Int) + 1).toNat]? = some (.ref qs) := by rw [show ((kz : Int) + 1).toNat = kz + 1 from by omega]; exact hqs
  refine' WN.turn (runTurn e1 e2 (by omega) (by omega) B F3 X N3 T hM ?tx ?tr ?tU hlen ?tz ?tz0 ?tz1 hcq ?tp ?tzs ?tc1)
  case tx => k_mem
  case tr => kcj_all
  case tU => intro i9; k_upd
  case tz => omega
  case tz0 => omega
  case tz1 => omega
  case tp => rfl
  case tzs => omega
  case' tc1 => intro i9 h9 tk9 t1 u9 F9 N9
  k_steps
  rename Fr _ _ _ _ => F4
  rename News _ _ _ _ => N4
  refine' WN.turn (runTurn e1 e2 (by omega) (by omega) B F4 X N4 T hM ?tx ?tr ?tU hlen ?tz ?tz0 ?tz1 hcs ?tp ?tzs ?tc2)
  case tx => k_mem
  case tr => kcj_all
  case tU => intro i9; k_upd
  case tz => omega
  case tz0 => omega
  case tz1 => omega
  case tp => rfl
  case tzs => omega
  case' tc2 => intro i9 h9 tk9 t1 u9 F9 N9
  k_steps
  rename Fr _ _ _ _ => F5
  rename News _ _ _ _ => N5
  refine WN.turn (runExit e1 e2 (by omega) (by omega) B F5 X N5 (by k_mem) T hM hlen (by omega) (by omega) fun tk' => ?_)
  obtain ⟨mm, F6⟩ := runF F5 hM
  dsimp only [kstB] at F6
  clear F5
  k_steps
  exact R1.ret _ (by assumption) nofresh (by assumption) (by assumption) rfl (by kcj_all)
end
theorem offB2 : True := by
  k_with "off B2" => skip
  trivial
section
local  macro_rules | `(tactic| l_ints) => `(tactic| skip)
theorem regB51 : True := by
  k_with "w call ref" => ((fail_if_success k_extra "off B5"); (((k_here; (with_reducible show wpAny _ _ (call (Value.ref 660) _) _ _ _); k_dflt (refine' call1 (fun rest hr => fpush_d ?hzs0 rest hr) ?hzkB ?hzkF ?hzkX ?hzkN ?hzkT ?hzkk ?hzkd ?hzku ?hzkx ?hzkr ?hzkU ?_; k_extra "D com1"; (case hzs0 => k_extra "D side")); k_extra "D fin"))))
  trivial
theorem stepOwn_d {w : World} {mx fx fd vx nx st oa : Addr} {k1 k2 k3 k4 k5 k6 k7 k8 : Tok} {steps most : Int} {ts tm t0 : Tok} {xs : List Value} {n : Nat} (hz : xs.length ≤ 5000)
    (rest : Led) (hr : ∀ p ∈ rest, p.1 ≠ st) :
    Ct w 724 [.ref mx, .ref fx, .str (Str.ofString "own") t0, .none] 4 40 ((st, W.listOf xs.toArray n) :: ([(fx, instObj 684 fd), (fd, frD w k1 k2 k3 k4 k5 k6 k7 k8 vx nx (.ref oa) st steps ts most tm)] ++ rest))
      (R1 (ι := Unit) (fun _ => True) (fun _ => []) (fun _ => .none) ((st, W.listOf xs.toArray n) :: ([(fx, instObj 684 fd), (fd, frD w k1 k2 k3 k4 k5 k6 k7 k8 vx nx (.ref oa) st steps ts most tm)] ++ rest)) (fun _ => [] ++ (st, W.listOf (xs ++ [Value.ref oa]).toArray (n + 1)) :: ([(fx, instObj 684 fd), (fd, frD w k1 k2 k3 k4 k5 k6 k7 k8 vx nx (.ref oa) st steps ts most tm)] ++ rest))) := by
  dsimp only [List.cons_append, List.nil_append]
  refine' Ct.of [(Str.ofString "self", .ref mx), (Str.ofString "frame", .ref fx), (Str.ofString "op", .str (Str.ofString "own") t0), (Str.ofString "worth", .none)] ?ho ?hcd ?hb ?hl ?hco ?hg ?hk ?hc ?bd
  case ho => k_is
  case hcd => k_is
  case hb => exact fun s9 X9 => by first | exact BindsTo.of_eq rfl | exact binds_K X9 rfl (by k_is) rfl rfl rfl
  case hl => exact locs rfl
  case hco => rfl
  case hg => rfl
  case hk => rfl
  case hc => rfl
  case' bd => (intro dp un gd outer A₀ base g L h o k p loose mean mg mb E B F X N T hdp hun he hE; k_fold; have hEO := envOk he (by kernel_rfl); (try have hBO := bindsOk F (by kernel_rfl)); have hMk : KstMark := kstMark)
  k_steps
  exact R1.next' () trivial nofresh (by assumption) (by assumption) rfl
theorem popSome2_d {w : World} {fx fd vx nx st : Addr} {k1 k2 k3 k4 k5 k6 k7 k8 : Tok} {own a b : Value} {steps most : Int} {ts tm tc : Tok} {n : Nat}
    (rest : Led) (hr : ∀ p ∈ rest, p.1 ≠ fd) :
    Ct w 674 [.ref fx, .int 2 tc] 4 40 ((fd, frD w k1 k2 k3 k4 k5 k6 k7 k8 vx nx own st steps ts most tm) :: ([(fx, instObj 684 fd), (st, W.listOf [a, b].toArray n)] ++ rest))
      (R1 (ι := Addr × Addr) (fun i => i.1 ≠ i.2) (fun i => [i.1, i.2]) (fun i => .ref i.1) ((fd, frD w k1 k2 k3 k4 k5 k6 k7 k8 vx nx own st steps ts most tm) :: ([(fx, instObj 684 fd), (st, W.listOf [a, b].toArray n)] ++ rest)) (fun i => [(i.2, W.listOf #[] 0), (i.1, W.listOf [a, b].toArray 0)] ++ (fd, frD w k1 k2 k3 k4 k5 k6 k7 k8 vx nx own i.2 steps ts most tm) :: ([(fx, instObj 684 fd), (st, W.listOf [a, b].toArray n)] ++ rest))) :=
  popSome_d (k := 2) rfl (by decide) rest hr
theorem add_tup {prog : Program} {w : World} {A : Around} {E : Value → Shared → Prop} {s : Shared} {h₀ : Heap} {L : Addr} {m : Str → Option Value} {news : Led} {t b : Addr} {vs : List Value} {v : Value} {Q : Value → Shared → Prop}
    (F : Fr h₀ L s.heap m) (N : News h₀ L s.heap news) (ht : (t, tupOf vs) ∈ news) (hb : (b, tupOf [v]) ∈ news) (hz : vs.length ≤ 5000)
    (h : ∀ r h', Fr h₀ L h' m → News h₀ L h' ((r, tupOf (vs ++ [v])) :: news) → Q (.ref r) { s with heap := h' }) : wpAny (model prog w) A (binaryOp .Add (.ref t) (.ref b)) Q E s := by
  have hb' := hb
  refine add_tuples F N (News.isTup N ht) (News.isTup N hb) (fun e => ?_) (fun _ e => nomatch e) (fun _ _ h' F' N' => h _ h' F' N') (by rw [PySem.sizeLine_eq]; simp only [List.length_cons, List.length_nil]; omega)
  subst e
  exact h b s.heap F fun p hp => (List.mem_cons.mp hp).elim (fun e => N p (e ▸ hb')) (N p)
theorem regB52 : True := by
  k_with "w binaryOp Add ref ref" => ((fail_if_success k_extra "off B5"); (((k_here; (with_reducible show wpAny _ _ (binaryOp Operator.Add (Value.ref _) (Value.ref _)) _ _ _); k_dflt (refine' add_tup ?hzk1 ?hzk2 ?hzk3 ?hzk4 ?hzk5 ?_; (case hzk1 => k_asm); (case hzk2 => k_asm); (case hzk3 => k_mem); (case hzk4 => k_mem); (case hzk5 => omega); k_whole); intro r9 h9 F9 N9))))
  k_with "w call ref" => ((fail_if_success k_extra "off B5"); (((k_here; (with_reducible show wpAny _ _ (call (Value.ref 674) _) _ _ _); k_dflt (refine' call1 (fun rest hr => popSome2_d  rest hr) ?hzkB ?hzkF ?hzkX ?hzkN ?hzkT ?hzkk ?hzkd ?hzku ?hzkx ?hzkr ?hzkU ?_; k_extra "D com1"); k_extra "D fin"))))
  k_with "w call ref" => ((fail_if_success k_extra "off B5"); (((k_here; (with_reducible show wpAny _ _ (call (Value.ref 534) _) _ _ _); k_dflt (refine' call0 (need_d ?hzs0) ?hzkB ?hzkF ?hzkX ?hzkN ?hzkT ?hzkk ?hzkd ?hzku ?_; k_extra "D com"; (case hzs0 => k_extra "D side")); k_extra "D fin"))))
  k_with "w call ref" => ((fail_if_success k_extra "off B5"); (((k_here; (with_reducible show wpAny _ _ (call (Value.ref 485) _) _ _ _); k_dflt (refine' callB0 (bounded_b ?hzs0 ?hzs1 ?hzs2) ?hzkB ?hzkF ?hzkX ?hzkN ?hzkT ?hzkk ?hzkd ?hzku ?hzkO ?hzkp ?_; k_extra "D com"; (case hzs2 => k_extra "D side"); (case hzs1 => k_extra "D side"); (case hzs0 => k_extra "D side"); (case hzkO => k_extra "B out"); (case hzkp => k_extra "B keep")); k_extra "D fin"))))
  trivial
theorem stepApply_b {w : World} {mx fx fd vx nx st oa : Addr} {k1 k2 k3 k4 k5 k6 k7 k8 : Tok} {own v : Value} {steps most : Int} {ts tm t0 t1 : Tok} {xs : List Value} {n kz : Nat} (hx : xs.length = kz) (hk9 : kz + 1 ≤ 2001)
    (rest : Led) (hr : ∀ p ∈ rest, p.1 ≠ fd) :
    CtB w 724 [.ref mx, .ref fx, .str (Str.ofString "apply") t0, .str (Str.ofString "push") t1] 26 300 ((fd, frD w k1 k2 k3 k4 k5 k6 k7 k8 vx nx own st steps ts most tm) :: ([(fx, instObj 684 fd), (st, W.listOf #[.ref oa, v] n), (oa, tupOf xs)] ++ rest))
      (R1 (ι := Addr × Addr) (fun _ => kz + 1 ≤ 2000) (fun i => [i.1]) (fun _ => .none) ((fd, frD w k1 k2 k3 k4 k5 k6 k7 k8 vx nx own st steps ts most tm) :: ([(fx, instObj 684 fd), (st, W.listOf #[.ref oa, v] n), (oa, tupOf xs)] ++ rest)) (fun i => [(i.2, tupOf (xs ++ [v])), (i.1, W.listOf #[.ref i.2] 1)] ++ (fd, frD w k1 k2 k3 k4 k5 k6 k7 k8 vx nx own i.1 steps ts most tm) :: ([(fx, instObj 684 fd), (st, W.listOf #[.ref oa, v] n), (oa, tupOf xs)] ++ rest)))
      107 (ι := PLift (2000 < kz + 1)) (fun _ _ _ => rest) := by
  dsimp only [List.cons_append, List.nil_append]
  have hx2 : (xs ++ [v]).length = kz + 1 := by rw [List.length_append, hx]; rfl
  refine' CtB.of [(Str.ofString "self", .ref mx), (Str.ofString "frame", .ref fx), (Str.ofString "op", .str (Str.ofString "apply") t0), (Str.ofString "worth", .str (Str.ofString "push") t1)] ?ho ?hcd ?hb ?hl ?hco ?hg ?hk ?hc ?bd
  case ho => k_is
  case hcd => k_is
  case hb => exact fun s9 X9 => by first | exact BindsTo.of_eq rfl | exact binds_K X9 rfl (by k_is) rfl rfl rfl
  case hl => exact locs rfl
  case hco => rfl
  case hg => rfl
  case hk => rfl
  case hc => rfl
  case' bd => (intro dp un gd outer A₀ base g L h o k p loose mean mg mb E B F X N T hdp hun he hE OX; k_fold; have hEO := envOk he (by kernel_rfl); (try have hBO := bindsOk F (by kernel_rfl)); have hMk : KstMark := kstMark)
  k_steps
  exact R1.next (_, _) (by assumption) (fresh1 (Fresh.go (by assumption))) (by assumption) (by assumption) rfl (by kcj_in)
end
theorem offB5 : True := by
  k_with "off B5" => skip
  trivial
section
theorem regB61 : True := by
  k_with "w call ref" => ((fail_if_success k_extra "off B6"); (((k_here; (with_reducible show wpAny _ _ (call (Value.ref 724) _) _ _ _); k_dflt (refine' call1 (fun rest hr => stepPush_d ?hzs0 rest hr) ?hzkB ?hzkF ?hzkX ?hzkN ?hzkT ?hzkk ?hzkd ?hzku ?hzkx ?hzkr ?hzkU ?_; k_extra "D com1"; (case hzs0 => k_extra "D side")); k_extra "D fin"))))
  k_with "w call ref" => ((fail_if_success k_extra "off B6"); (((k_here; (with_reducible show wpAny _ _ (call (Value.ref 724) _) _ _ _); k_dflt (refine' call1 (fun rest hr => stepOwn_d ?hzs0 rest hr) ?hzkB ?hzkF ?hzkX ?hzkN ?hzkT ?hzkk ?hzkd ?hzku ?hzkx ?hzkr ?hzkU ?_; k_extra "D com1"; (case hzs0 => k_extra "D side")); k_extra "D fin"))))
  k_with "w call ref" => ((fail_if_success k_extra "off B6"); (((k_here; (with_reducible show wpAny _ _ (call (Value.ref 724) _) _ _ _); k_dflt (refine' callB1 (fun rest hr => stepApply_b ?hzs0 ?hzs1 rest hr) ?hzkB ?hzkF ?hzkX ?hzkN ?hzkT ?hzkk ?hzkd ?hzku ?hzkO ?hzkx ?hzkr ?hzkU ?hzkp ?_; k_extra "D com1"; (case hzs1 => k_extra "D side"); (case hzs0 => k_extra "D side"); (case hzkO => k_extra "B out"); (case hzkp => exact fun rest9 h9 i => ⟨i, fun _ _ q hq => h9 q (by (repeat' (first | exact hq | refine List.mem_cons_of_mem _ ?_))) (hfd q hq)⟩)); k_extra "D fin"))))
  k_with "w call ref" => ((fail_if_success k_extra "off B6"); (((k_here; (with_reducible show wpAny _ _ (call (Value.ref 724) _) _ _ _); k_dflt (refine' call2 (fun rest hr hr2 => stepSet_d  rest hr hr2) ?hzkB ?hzkF ?hzkX ?hzkN ?hzkT ?hzkk ?hzkd ?hzku ?hzkx ?hzky ?hzkr ?hzkU ?hzkV ?_; k_extra "D com2"); k_extra "D fin"))))
  trivial
theorem runPush_b {w : World} {mx md cx vx nx q1 q2 q3 q4 oa : Addr} {v : Value} {tm tm2 t1 t2 t3 t4 t5 : Tok} {xs : List Value} {nc kz : Nat} (tl : Led) (hx : xs.length = kz) (hk9 : kz + 1 ≤ 2001) :
    CtB w 710 [.ref mx, .ref cx, .ref vx, .ref nx, .none, .ref oa] 30 360 ((mx, instObj 760 md) :: (md, mcD w tm 4100 tm2) :: (cx, W.listOf [Value.ref q1, .ref q2, .ref q3, .ref q4].toArray nc) :: (q1, tupOf [.str (Str.ofString "own") t1, .none]) :: (q2, tupOf [.str (Str.ofString "push") t2, v]) :: (q3, tupOf [.str (Str.ofString "apply") t3, .str (Str.ofString "push") t4]) :: (q4, tupOf [.str (Str.ofString "set") t5, .none]) :: (oa, tupOf xs) :: tl)
      (R1 (ι := Addr) (fun _ => kz + 1 ≤ 2000) (fun _ => []) (fun i => .ref i) ((mx, instObj 760 md) :: (md, mcD w tm 4100 tm2) :: (cx, W.listOf [Value.ref q1, .ref q2, .ref q3, .ref q4].toArray nc) :: (q1, tupOf [.str (Str.ofString "own") t1, .none]) :: (q2, tupOf [.str (Str.ofString "push") t2, v]) :: (q3, tupOf [.str (Str.ofString "apply") t3, .str (Str.ofString "push") t4]) :: (q4, tupOf [.str (Str.ofString "set") t5, .none]) :: (oa, tupOf xs) :: tl)
        (fun i => [(i, tupOf (xs ++ [v]))] ++ ((mx, instObj 760 md) :: (md, mcD w tm 4100 tm2) :: (cx, W.listOf [Value.ref q1, .ref q2, .ref q3, .ref q4].toArray nc) :: (q1, tupOf [.str (Str.ofString "own") t1, .none]) :: (q2, tupOf [.str (Str.ofString "push") t2, v]) :: (q3, tupOf [.str (Str.ofString "apply") t3, .str (Str.ofString "push") t4]) :: (q4, tupOf [.str (Str.ofString "set") t5, .none]) :: (oa, tupOf xs) :: tl)))
      107 (ι := PLift (2000 < kz + 1)) (fun _ _ _ => tl) := by
  refine' with_lit (w := w) (f := 710) ?ho0 ?kk0
  case ho0 => k_is
  case' kk0 => intro e1 e2
  refine' CtB.of [(Str.ofString "self", .ref mx), (Str.ofString "code", .ref cx), (Str.ofString "values", .ref vx), (Str.ofString "names", .ref nx), (Str.ofString "control", .none), (Str.ofString "own", .ref oa)] ?ho ?hcd ?hb ?hl ?hco ?hg ?hk ?hc ?bd
  case ho => k_is
  case hcd => k_is
  case hb => exact fun s9 X9 => by first | exact BindsTo.of_eq rfl | exact binds_K X9 rfl (by k_is) rfl rfl rfl
  case hl => exact locs rfl
  case hco => rfl
  case hg => rfl
  case hk => rfl
  case hc => rfl
  case' bd => (intro dp un gd outer A₀ base g L h o k p loose mean mg mb E B F X N T hdp hun he hE OX; k_fold; have hEO := envOk he (by kernel_rfl); (try have hBO := bindsOk F (by kernel_rfl)); have hMk : KstMark := kstMark)
  refine wpAny_execs_cons (runHead e1 e2 (by omega) (by omega) B F X N T (.head _) (.tail _ (.head _)) fun i9 h9 tk9 m9 t0 hA F1 N1 hM hat => ?_)
  obtain ⟨hA9a, hA9b, hA9c, -⟩ := hA
  have hfd : ∀ p ∈ tl, p.1 ≠ i9.2.1 := fun p hp => hA9b.go p (.tail _ (.tail _ (.tail _ (.tail _ (.tail _ (.tail _ (.tail _ (.tail _ hp))))))))
  have hst : ∀ p ∈ tl, p.1 ≠ i9.2.2.1 := fun p hp => hA9c.go p (.tail _ (.tail _ (.tail _ (.tail _ (.tail _ (.tail _ (.tail _ (.tail _ hp))))))))
  refine wpAny_execs_cons (while_wn 5 ?_ hE)
  have hlen : [Value.ref q1, .ref q2, .ref q3, .ref q4].length = 4 := rfl
  have hq1 : [Value.ref q1, .ref q2, .ref q3, .ref q4][(0 : Int).toNat]? = some (.ref q1) := rfl
  have hq2 : [Value.ref q1, .ref q2, .ref q3, .ref q4][((0 : Int) + 1).toNat]? = some (.ref q2) := rfl
  have hq3 : [Value.ref q1, .ref q2, .ref q3, .ref q4][((0 : Int) + 1 + 1).toNat]? = some (.ref q3) := rfl
  have hq4 : [Value.ref q1, .ref q2, .ref q3, .ref q4][((0 : Int) + 1 + 1 + 1).toNat]? = some (.ref q4) := rfl
  obtain ⟨mm, FF⟩ : ∃ u, Fr g L h9 (runM m9 u 0 t0) := ⟨m9, by
    rw [show runM m9 m9 0 t0 = m9 from funext fun y => kstB_eq (by intro p hp; rw [List.mem_singleton.mp hp]; exact hat) (fun _ => by simp)]
    exact F1⟩
  clear F1 hat
  refine' WN.turn (runTurn e1 e2 (by omega) (by omega) B FF X N1 T hM ?tx ?tr ?tU hlen ?tz ?tz0 ?tz1 hq1 ?tp ?tzs ?tc1)
  case tx => k_mem
  case tr => kcj_all
  case tU => intro i9; k_upd
  case tz => omega
  case tz0 => omega
  case tz1 => omega
  case tp => rfl
  case tzs => omega
  case' tc1 => intro i9 h9 tk9 t1 u9 F9 N9
  k_steps
  rename Fr _ _ _ _ => F2
  rename News _ _ _ _ => N2
  refine' WN.turn (runTurn e1 e2 (by omega) (by omega) B F2 X N2 T hM ?tx ?tr ?tU hlen ?tz ?tz0 ?tz1 hq2 ?tp ?tzs ?tc2)
  case tx => k_mem
  case tr => kcj_all
  case tU => intro i9; k_upd
  case tz => omega
  case tz0 => omega
  case tz1 => omega
  case tp => rfl
  case tzs => omega
  case' tc2 => intro i9 h9 tk9 t1 u9 F9 N9
  k_steps
  rename Fr _ _ _ _ => F3
  rename News _ _ _ _ => N3
  refine' WN.turn (runTurn e1 e2 (by omega) (by omega) B F3 X N3 T hM ?tx ?tr ?tU hlen ?tz ?tz0 ?tz1 hq3 ?tp ?tzs ?tc3)
  case tx => k_mem
  case tr => kcj_all
  case tU => intro i9; k_upd
  case tz => omega
  case tz0 => omega
  case tz1 => omega
  case tp => rfl
  case tzs => omega
  case' tc3 => intro i9 h9 tk9 t1 u9 F9 N9
  k_steps
  rename Fr _ _ _ _ => F4
  rename News _ _ _ _ => N4
  refine' WN.turn (runTurn e1 e2 (by omega) (by omega) B F4 X N4 T hM ?tx ?tr ?tU hlen ?tz ?tz0 ?tz1 hq4 ?tp ?tzs ?tc4)
  case tx => k_mem
  case tr => kcj_all
  case tU => intro i9; k_upd
  case tz => omega
  case tz0 => omega
  case tz1 => omega
  case tp => rfl
  case tzs => omega
  case' tc4 => intro i9 h9 tk9 t1 u9 F9 N9
  k_steps
  rename Fr _ _ _ _ => F5
  rename News _ _ _ _ => N5
  refine WN.turn (runExit e1 e2 (by omega) (by omega) B F5 X N5 (by k_mem) T hM hlen (by omega) (by omega) fun tk' => ?_)
  obtain ⟨mm, F6⟩ := runF F5 hM
  dsimp only [kstB] at F6
  clear F5
  k_steps
  exact R1.ret _ (by assumption) nofresh (by assumption) (by assumption) rfl (by kcj_all)
end
theorem offB6 : True := by
  k_with "off B6" => skip
  trivial
section
theorem regB31 : True := by
  k_with "w call ref" => ((fail_if_success k_extra "off B3"); (((k_here; (with_reducible show wpAny _ _ (call (Value.ref 653) _) _ _ _); k_dflt (refine' call1 (fun rest hr => count_d ?hzs0 rest hr) ?hzkB ?hzkF ?hzkX ?hzkN ?hzkT ?hzkk ?hzkd ?hzku ?hzkx ?hzkr ?hzkU ?_; k_extra "D com1"; (case hzs0 => k_extra "D side")); k_extra "D fin"))))
  k_with "w call ref" => ((fail_if_success k_extra "off B3"); (((k_here; (with_reducible show wpAny _ _ (call (Value.ref 757) _) _ _ _); k_dflt (refine' call1 (fun rest hr => valueNum_d ?hzs0 rest hr) ?hzkB ?hzkF ?hzkX ?hzkN ?hzkT ?hzkk ?hzkd ?hzku ?hzkx ?hzkr ?hzkU ?_; k_extra "D com1"; (case hzs0 => k_extra "D side")); k_extra "D fin"))))
  k_with "w call ref" => ((fail_if_success k_extra "off B3"); (((k_here; (with_reducible show wpAny _ _ (call (Value.ref 485) _) _ _ _); k_dflt (refine' callB0 (bounded_b ?hzs0 ?hzs1 ?hzs2) ?hzkB ?hzkF ?hzkX ?hzkN ?hzkT ?hzkk ?hzkd ?hzku ?hzkO ?hzkp ?_; k_extra "D com"; (case hzs2 => k_extra "D side"); (case hzs1 => k_extra "D side"); (case hzs0 => k_extra "D side"); (case hzkO => k_extra "B out"); (case hzkp => k_extra "B keep")); k_extra "D fin"))))
  k_with "w CompRest" => ((fail_if_success k_extra "off B3"); (((refine Halt.out ?_))))
  k_with "w CompSrc" => ((fail_if_success k_extra "off B3"); (((k_here; k_dflt (refine LCg.CompSrc.ledger (by rfl) (by k_asm) (by k_asm) (by k_mem) (by ((rw [PySem.sizeLine_eq]); (try simp only [List.size_toArray]); omega)) ?_); intro g'))))
  k_with "w CompEnd" => ((fail_if_success k_extra "off B3"); (((refine Halt.out ?_))))
  trivial
theorem valueList_b {w : World} {mx md fx fd vx nx st node ls : Addr} {k1 k2 k3 k4 k5 k6 k7 k8 : Tok} {own : Value} {steps most : Int} {ts tm t0 tq tq2 : Tok} {mq : Int} {partsL dueL : List Value} {kz nl : Nat} {tl : Led} (hst : steps + 1 + kz ≤ most) (hx : partsL.length = kz) (hy : dueL.length = kz) (hk9 : kz ≤ 2001)
    (hq : ∀ i, i < kz → ∃ q t v, partsL[i]? = some (.ref q) ∧ dueL[i]? = some v ∧ (q, tupOf [.str (Str.ofString "number") t, v]) ∈ tl)
    (h7 : ∀ p ∈ tl, p.1 ≠ fd) (rest : Led) (hr : ∀ p ∈ rest, p.1 ≠ fd) :
    CtB w 757 [.ref mx, .ref fx, .ref node] 24 260 ((fd, frD w k1 k2 k3 k4 k5 k6 k7 k8 vx nx own st steps ts most tm) :: ((fx, instObj 684 fd) :: (node, tupOf [.str (Str.ofString "list") t0, .ref ls]) :: (ls, W.listOf partsL.toArray nl) :: (mx, instObj 760 md) :: (md, mcD w tq mq tq2) :: tl ++ rest))
      (R1 (ι := Addr × Tok) (fun _ => kz ≤ 2000) (fun _ => []) (fun i => .ref i.1) ((fd, frD w k1 k2 k3 k4 k5 k6 k7 k8 vx nx own st steps ts most tm) :: ((fx, instObj 684 fd) :: (node, tupOf [.str (Str.ofString "list") t0, .ref ls]) :: (ls, W.listOf partsL.toArray nl) :: (mx, instObj 760 md) :: (md, mcD w tq mq tq2) :: tl ++ rest))
        (fun i => [(i.1, tupOf dueL)] ++ (fd, frD w k1 k2 k3 k4 k5 k6 k7 k8 vx nx own st (steps + 1 + kz) i.2 most tm) :: ((fx, instObj 684 fd) :: (node, tupOf [.str (Str.ofString "list") t0, .ref ls]) :: (ls, W.listOf partsL.toArray nl) :: (mx, instObj 760 md) :: (md, mcD w tq mq tq2) :: tl ++ rest)))
      107 (ι := PLift (2000 < kz)) (fun _ _ _ => tl ++ rest) := by
  have hq' : ∀ i, i < kz → ∃ q t v, partsL[i]? = some (.ref q) ∧ dueL[i]? = some v ∧ (q, tupOf [.str (Str.ofString "number") t, v]) ∈ tl ++ rest := fun i hi => by
    obtain ⟨q, t, v, a1, a2, a3⟩ := hq i hi
    exact ⟨q, t, v, a1, a2, List.mem_append_left _ a3⟩
  have hb : ∀ p ∈ tl ++ rest, p.1 ≠ fd := fun p hp => (List.mem_append.mp hp).elim (h7 p) (hr p)
  clear hq h7 hr
  dsimp only [List.cons_append, List.nil_append]
  generalize tl ++ rest = big at *
  clear tl rest
  refine' CtB.ofC [(Str.ofString "self", .ref mx), (Str.ofString "frame", .ref fx), (Str.ofString "node", .ref node)] ?ho ?hcd ?hb ?hl ?hnd ?hco ?hg ?hk ?bd
  case ho => k_is
  case hcd => k_is
  case hb => exact fun s9 X9 => by first | exact BindsTo.of_eq rfl | exact binds_K X9 rfl (by k_is) rfl rfl rfl
  case hl => rfl
  case hnd => decide +kernel
  case hco => rfl
  case hg => rfl
  case hk => rfl
  case' bd => (intro dp un gd outer A₀ base g L cells h o k p loose mean mg mb E B F X N Y T hdp hun he hE l1 OX; k_fold; have hEO := envOkC he (by kernel_rfl); have l1 := allLt_of l1; dsimp only [AllLt] at l1; k_cells Y; simp only [List.cons_append, List.nil_append] at N; have hMk : KstMark := kstMark)
  k_steps
  refine Halt.go ?_
  rename_i o1 o2 d1 d2 _ D1 _ F1 N1 l1
  have hsz : partsL.toArray.size = kz := by rw [List.size_toArray, hx]
  rw [hsz]
  refine' comp_nat (σ := Tok) (fun i c => (D1, tupOf [.str (Str.ofString "number") (tk9 + 1 + 1), .str (Str.ofString "text") (tk9 + 1 + 1 + 1)]) :: (L + 1 + 1, o1) :: (L + 1, o2) :: (fd, frD w k1 k2 k3 k4 k5 k6 k7 k8 vx nx own st (steps + 1 + (i : Int)) c most tm) ::
    (fx, instObj 684 fd) :: (node, tupOf [.str (Str.ofString "list") t0, .ref ls]) :: (ls, W.listOf partsL.toArray nl) :: (mx, instObj 760 md) :: (md, mcD w tq mq tq2) :: big) (fun _ _ => True) (fun i _ => dueL.take i) i9 ?hn trivial rfl ?turn ?fin
  case hn => rw [show steps + 1 + ((0 : Nat) : Int) = steps + 1 from by omega]
  case turn =>
    intro i c v I oI C oC D m₂ h3 tk3 E' hi _ hv hC hx3 F3 N3 off ne
    obtain ⟨q, tq', v', a1, a2, a3⟩ := hq' i hi
    obtain rfl : Value.ref q = v := by
      have z : partsL[i]? = some v := by simpa using hv
      rw [a1] at z
      exact Option.some.inj z
    k_steps
    refine Halt.go ?_
    rename News _ _ _ _ => NN
    rw [show steps + 1 + (i : Int) + 1 = steps + 1 + ((i + 1 : Nat) : Int) from by omega] at NN
    exact LCg.CompEnd.intro (by assumption) NN _ (fun p hp => hp) (off_same off rfl) (.inr ⟨_, by k_mem, rfl, _, rfl⟩) ⟨_, rfl, trivial, by rw [List.take_add_one, a2]; rfl⟩
  case fin =>
    intro c _
    rw [List.take_of_length_le (by omega)]
    k_steps
    exact R1.ret (_, _) (by assumption) nofresh (by assumption) (by assumption) rfl (by kcj_all)
end
theorem offB3 : True := by
  k_with "off B3" => skip
  trivial
section
theorem regB41 : True := by
  k_with "w call ref" => ((fail_if_success k_extra "off B4"); (((k_here; (with_reducible show wpAny _ _ (call (Value.ref 653) _) _ _ _); k_dflt (refine' call1 (fun rest hr => count_d ?hzs0 rest hr) ?hzkB ?hzkF ?hzkX ?hzkN ?hzkT ?hzkk ?hzkd ?hzku ?hzkx ?hzkr ?hzkU ?_; k_extra "D com1"; (case hzs0 => k_extra "D side")); k_extra "D fin"))))
  k_with "w call ref" => ((fail_if_success k_extra "off B4"); (((k_here; (with_reducible show wpAny _ _ (call (Value.ref 757) _) _ _ _); k_dflt (refine' callB1 (fun rest hr => valueList_b ?hzs0 ?hzs1 ?hzs2 ?hzs3 ?hzs4 ?hzs5 rest hr) ?hzkB ?hzkF ?hzkX ?hzkN ?hzkT ?hzkk ?hzkd ?hzku ?hzkO ?hzkx ?hzkr ?hzkU ?hzkp ?_; (case hzs4 => assumption); k_extra "D com1"; (case hzs5 => k_extra "D side"); (case hzs3 => k_extra "D side"); (case hzs2 => k_extra "D side"); (case hzs1 => k_extra "D side"); (case hzs0 => k_extra "D side"); (case hzkO => k_extra "B out"); (case hzkp => exact fun rest9 h9 i => ⟨i, fun _ _ q hq => List.mem_append_left _ hq⟩)); k_extra "D fin"))))
  k_with "w call ref" => ((fail_if_success k_extra "off B4"); (((k_here; (with_reducible show wpAny _ _ (call (Value.ref 684) _) _ _ _); k_dflt (refine' call0 (mkFrame_d ) ?hzkB ?hzkF ?hzkX ?hzkN ?hzkT ?hzkk ?hzkd ?hzku ?_; k_extra "D com"); k_extra "D fin"))))
  k_with "w exec For Name Name cons nil" => ((fail_if_success k_extra "off B4"); (((refine Halt.out ?_))))
  k_with "w pyIter ref" => ((fail_if_success k_extra "off B4"); ((((with_reducible show wpAny _ _ (pyIter (Value.ref _)) (fun it s₂ => LoopAtV _ _ _ _ _ _ _ _ _ it s₂) _ _); (rename Fr _ _ _ _ => lF'); (rename News _ _ _ _ => lN'); (with_unfolding_all refine' iter_listUnr ?hzk1 lF' lN' ?hzk2 ?hzk3 ?hzk4 ?_; (case hzk1 => rfl); (case hzk2 => k_mem); (case hzk3 => rfl); (case hzk4 => rfl); k_whole); clear lF'; intro i' l1; (try k_lt l1)))))
  k_with "w UnrEnd" => ((fail_if_success k_extra "off B4"); (((refine Halt.out ?_))))
  trivial
theorem unr_two {h₀ : Heap} {L I : Addr} {it : Obj} {R : (Str → Option Value) → Led → Prop} {s₁ : Shared} {h' : Heap} {tk : Nat} {m' : Str → Option Value} {a : Addr × Obj} {rest : Led} (F : Fr h₀ L h' m') (N : News h₀ L h' (a :: (I, it) :: rest)) (hi : it.cls = .type "list_iterator") (hk : (a.2.cls == .type "list_iterator") = false) (hr : AllLt I rest)
    (r : R m' (a :: rest)) : UnrEnd h₀ L s₁ I it R { s₁ with heap := h', toks := tk } :=
  UnrEnd.intro F N (a :: rest) (fun p hp => by
    rcases List.mem_cons.mp hp with rfl | hp
    · exact List.mem_cons_of_mem _ (List.mem_cons_self ..)
    · rcases List.mem_cons.mp hp with rfl | hp
      · exact List.mem_cons_self ..
      · exact List.mem_cons_of_mem _ (List.mem_cons_of_mem _ hp)) (fun p hp => by
    rcases List.mem_cons.mp hp with rfl | hp
    · rintro rfl
      have e := (N _ List.mem_cons_self).1.symm.trans (N _ (List.mem_cons_of_mem _ List.mem_cons_self)).1
      rw [Option.some.inj e, hi] at hk
      cases hk
    · exact Nat.ne_of_lt (kst_ltOf hr p hp)) r
theorem evalList_b {w : World} {mx md nx vx ns nd ls pl : Addr} {own : Value} {tm tm2 t0 t1 : Tok} {most : Int} {partsL dueL : List Value} {kz nl nn : Nat} (tl : Led) (h9 : 1 + 1 + (kz : Int) ≤ most) (hx : partsL.length = kz) (hy : dueL.length = kz) (hk9 : kz ≤ 2001)
    (hq : ∀ i, i < kz → ∃ q t v, partsL[i]? = some (.ref q) ∧ dueL[i]? = some v ∧ (q, tupOf [.str (Str.ofString "number") t, v]) ∈ tl) :
    CtB w 738 [.ref mx, .ref ns, .ref vx, .ref nx, .none, own] 32 360 ((ns, W.listOf #[.ref nd] nn) :: (nd, tupOf [.str (Str.ofString "set") t1, .ref ls]) :: (ls, tupOf [.str (Str.ofString "list") t0, .ref pl]) :: (mx, instObj 760 md) :: (md, mcD w tm most tm2) :: (pl, W.listOf partsL.toArray nl) :: tl)
      (R1 (ι := Addr) (fun _ => kz ≤ 2000) (fun _ => []) (fun i => .ref i) ((ns, W.listOf #[.ref nd] nn) :: (nd, tupOf [.str (Str.ofString "set") t1, .ref ls]) :: (ls, tupOf [.str (Str.ofString "list") t0, .ref pl]) :: (mx, instObj 760 md) :: (md, mcD w tm most tm2) :: (pl, W.listOf partsL.toArray nl) :: tl)
       (fun i => [(i, tupOf dueL)] ++ ((ns, W.listOf #[.ref nd] nn) :: (nd, tupOf [.str (Str.ofString "set") t1, .ref ls]) :: (ls, tupOf [.str (Str.ofString "list") t0, .ref pl]) :: (mx, instObj 760 md) :: (md, mcD w tm most tm2) :: (pl, W.listOf partsL.toArray nl) :: tl)))
      107 (ι := PLift (2000 < kz)) (fun _ _ _ => tl) := by
  refine' CtB.of [(Str.ofString "self", .ref mx), (Str.ofString "nodes", .ref ns), (Str.ofString "values", .ref vx), (Str.ofString "names", .ref nx), (Str.ofString "control", .none), (Str.ofString "own", own)] ?ho ?hcd ?hb ?hl ?hco ?hg ?hk ?hc ?bd
  case ho => k_is
  case hcd => k_is
  case hb => exact fun s9 X9 => by first | exact BindsTo.of_eq rfl | exact binds_K X9 rfl (by k_is) rfl rfl rfl
  case hl => exact locs rfl
  case hco => rfl
  case hg => rfl
  case hk => rfl
  case hc => rfl
  case' bd => (intro dp un gd outer A₀ base g L h o k p loose mean mg mb E B F X N T hdp hun he hE OX; k_fold; have hEO := envOk he (by kernel_rfl); (try have hBO := bindsOk F (by kernel_rfl)); have hMk : KstMark := kstMark)
  k_steps
  have h7 : ∀ p ∈ tl, p.1 ≠ i9.2.1 := fun p hp => hA9b.go p (.tail _ (.tail _ (.tail _ (.tail _ (.tail _ (.tail _ hp))))))
  refine Halt.go ?_
  (k_here; (rename Fr _ _ _ _ => lF'); (with_unfolding_all refine' For_invVF lF' ?k1 ?k2 ?_; (case k1 => exact rfl); (case k2 => exact rfl); k_whole))
  k_steps
  refine Halt.go ?_
  rename _ ∧ _ ∧ _ ∧ _ ∧ _ ∧ _ ∧ _ ∧ _ ∧ _ ∧ AllLt _ _ => l1
  rename _ = PySem.Value.type "list_iterator" => hi
  refine unr_two (by assumption) (by assumption) hi rfl (by exact l1) ⟨by k_mem, ?_⟩
  k_steps
  exact R1.ret _ (by assumption) nofresh (by assumption) (by assumption) rfl (by kcj_all)
end
theorem offB4 : True := by
  k_with "off B4" => skip
  trivial
section
theorem regL11 : True := by
  k_with "w exec Try" => ((fail_if_success k_extra "off L1"); (((k_here; (with_reducible show wpAny _ _ (exec (Stmt.Try _ (_ :: _) _ [] _) _) _ _ _); refine wpAny_Try_except ?_))))
  k_with "w callWith ref" => ((fail_if_success k_extra "off L1"); (((k_here; k_dflt (refine' callWith_F0 ?hzk1 ?_; (case hzk1 => exact FnAt.of (by k_asm) (by k_mem)); k_whole)))))
  k_with "w call ref" => ((fail_if_success k_extra "off L1"); (((refine Halt.out ?_))))
  trivial
noncomputable def RanPost {ι : Type} (Post : Value → Led → Prop) (kp : ι → Addr → Addr → Led) (r : Value) (l : Led) : Prop :=
  ∃ b n l', r = .ref b ∧ ((∃ v, Post v l' ∧ l = (b, W.listOf #[v] n) :: l') ∨ (∃ i e D, l = (b, W.listOf #[] n) :: l' ∧ ∀ q ∈ kp i e D, q ∈ l'))
theorem ran_t {w : World} {f : Addr} {oc : Value} {od : Option Addr} {fd : FuncData} {sl : Array (Option Value)} {news : Led} {Post : Value → Led → Prop} {ι : Type} {kp : ι → Addr → Addr → Led} (H : CtB w f [] 40 400 news Post 107 kp) (hm : (f, (⟨oc, od, .func fd, sl⟩ : Obj)) ∈ news) :
    CtT w 778 [.ref f] 44 440 news (RanPost Post kp) := by
  refine' CtT.of [(Str.ofString "work", .ref f)] ?ho ?hcd ?hb ?hl ?hco ?hg ?hk ?hc ?bd
  case ho => k_is
  case hcd => k_is
  case hb => exact fun s9 X9 => by first | exact BindsTo.of_eq rfl | exact binds_K X9 rfl (by k_is) rfl rfl rfl
  case hl => exact locs rfl
  case hco => rfl
  case hg => rfl
  case hk => rfl
  case hc => rfl
  case' bd => (intro dp un gd outer A₀ base g L h o k p loose mean mg mb E B F X N T XB TB D hdp hun he hE; k_fold; have hEO := envOk he (by kernel_rfl); (try have hBO := bindsOk F (by kernel_rfl)); have hMk : KstMark := kstMark)
  k_steps
  refine Halt.go ?_
  refine callBT H (by assumption) (by assumption) (by assumption) (by assumption) (by assumption) rfl (by omega) (by omega) (fun r l h9 tk9 hp F9 N9 => ?_) fun i e D9 h9 tk9 fl => ?_
  · k_steps
    exact EndedT.ret KtsTurn.refl ⟨_, _, _, rfl, .inl ⟨_, hp, rfl⟩⟩ (by assumption) (by assumption)
  · refine caughtX (KF := Mine.K w.params) (m := fun y => List.lookup y [(Str.ofString "work", Value.ref f)].reverse) fl rfl B XB TB D (gf_MachineError (w := w)).go (by kernel_rfl) rfl rfl (by kernel_rfl) fun h8 g8 oe T8 F8 N8 c8 d8 K8 X8 P8 D8 => ?_
    k_steps
    exact EndedT.ret (by assumption) ⟨_, _, _, rfl, .inr ⟨_, _, _, rfl, fun q hq => .tail _ hq⟩⟩ (by assumption) (by assumption)
theorem callRan {w : World} {f : Addr} {oc : Value} {od : Option Addr} {fd : FuncData} {sl : Array (Option Value)} {dp un : Nat} {gd : Option (List Code)} {cn : Str} {cs : Scope} {a : Addr} {ccd : Value} {cl : List (Str × Addr)} {outer : List Env} {A₀ : Around} {base h₀ h : Heap} {L : Addr} {m : Str → Option Value} {o : Shared} {k : Nat} {Q : Value → Shared → Prop} {E : Value → Shared → Prop}
    {p : Program} {loose : List Str} {mean : ExcName → Option Value} {mg mb : Str → Option Value} {led : Led} {ι ι' : Type} {P : ι → Prop} {val : ι → Value} {more : ι → Led}
    (F : Fr h₀ L h m) (N : News h₀ L h led) (hm : (f, (⟨oc, od, .func fd, sl⟩ : Obj)) ∈ led) (H : CtB w f [] 40 400 led (R1 P (fun _ => []) val led (fun i => more i ++ led)) 107 (fun (_ : ι') _ _ => led))
    (B : Below A₀ base outer h₀) (X : (Mine.K w.params).In h₀) (T : Top p loose mean mg mb h₀) (XB : (Mine.K w.params).In base) (TB : Top p loose mean mg mb base) (D : KtsDicts (outer.filterMap (·.frame)) h₀) (hk : cs.kind = .function) (hd : dp + 44 < recursionLimit) (hu : un + 440 < cLine)
    (ret : ∀ b n h' tk' h₀', KtsTurn (outer.filterMap (·.frame)) h₀ h₀' → Below A₀ base outer h₀' → (Mine.K w.params).In h₀' → Top p loose mean mg mb h₀' → Fr h₀' L h' m → ((∃ i, P i ∧ News h₀' L h' ((b, W.listOf #[val i] n) :: (more i ++ led))) ∨ (Nonempty ι' ∧ News h₀' L h' ((b, W.listOf #[] n) :: led))) → Q (.ref b) (SH o h' tk')) :
    wpAny (model PySem.Challenge.rw_qd0072_01.row.prog w) (ktrTop dp un gd cn cs L a ccd cl outer) (call (.ref 778) [.ref f]) Q E (SH o h k) := by
  refine callT (ran_t H hm) B F X N T XB TB D hk hd hu ?_
  rintro r l h' tk' h₀' T₁ ⟨b, n, l', rfl, hc⟩ F₁ N₁ B₁ X₁ P₁
  refine ret b n h' tk' h₀' T₁ B₁ X₁ P₁ F₁ ?_
  rcases hc with ⟨v, ⟨i, hp, -, rfl, rfl⟩, rfl⟩ | ⟨i, e, D', rfl, hs⟩
  · exact .inl ⟨i, hp, N₁⟩
  · exact .inr ⟨⟨i⟩, fun q hq => N₁ q ((List.mem_cons.mp hq).elim (fun z => z ▸ .head _) fun z => .tail _ (hs q z))⟩
end
theorem offL1 : True := by
  k_with "off L1" => skip
  trivial
section
theorem draw_d {w : World} {pn c : Addr} {sp z many : Int} {t1 t2 t3 : Tok} {vs : List Value} {ns : List Int} {n1 n2 : Nat}
    (hi : IntsAre vs ns) (h0 : 0 ≤ sp) (h9 : sp ≤ 10) (hm : 0 < many) (hm9 : many < 100) (hl : ns.length ≤ 63) (hz : 0 ≤ z) (hz9 : z < 1000) (hc : @Ne Nat c pn) (rest : Led) (hr : ∀ p ∈ rest, p.1 ≠ pn) :
    Ct w 771 [.ref pn, .int many t3] 4 40 ((pn, W.listOf #[.ref c, .int sp t1, .int z t2] n1) :: ([(c, W.listOf vs.toArray n2)] ++ rest))
      (R1 (ι := Int × Tok × Tok) (fun i => 0 ≤ i.1 ∧ i.1 < many) (fun _ => []) (fun i => .int i.1 i.2.1) ((pn, W.listOf #[.ref c, .int sp t1, .int z t2] n1) :: ([(c, W.listOf vs.toArray n2)] ++ rest))
        (fun i => [] ++ (pn, W.listOf #[.ref c, .int (sp + 1) i.2.2, .int z t2] n1) :: ([(c, W.listOf vs.toArray n2)] ++ rest))) := by
  dsimp only [List.cons_append, List.nil_append]
  have hc' : ∀ p ∈ [(c, W.listOf vs.toArray n2)], p.1 ≠ pn := by simpa using hc
  refine' Ct.of [(Str.ofString "pen", .ref pn), (Str.ofString "many", .int many t3)] ?ho ?hcd ?hb ?hl ?hco ?hg ?hk ?hc ?bd
  case ho => k_is
  case hcd => k_is
  case hb => exact fun s9 X9 => by first | exact BindsTo.of_eq rfl | exact binds_K X9 rfl (by k_is) rfl rfl rfl
  case hl => exact locs rfl
  case hco => rfl
  case hg => rfl
  case hk => rfl
  case hc => rfl
  case' bd => (intro dp un gd outer A₀ base g L h o k p loose mean mg mb E B F X N T hdp hun he hE; k_fold; have hEO := envOk he (by kernel_rfl); (try have hBO := bindsOk F (by kernel_rfl)); have hMk : KstMark := kstMark)
  k_steps
  all_goals exact R1.ret' (_, _, _) ⟨by first | exact fmod_lo _ hm | exact (fmod_lo _ (by omega)), by first | exact fmod_hi _ hm | exact fmod_hi _ (by omega)⟩ nofresh (by assumption) (by assumption) rfl
end
section
theorem regL31 : True := by
  k_with "w call ref" => ((fail_if_success k_extra "off L3"); (((k_here; (with_reducible show wpAny _ _ (call (Value.ref 771) _) _ _ _); k_dflt (refine' call1 (fun rest hr => draw_d ?hzs0 ?hzs1 ?hzs2 ?hzs3 ?hzs4 ?hzs5 ?hzs6 ?hzs7 ?hzs8 rest hr) ?hzkB ?hzkF ?hzkX ?hzkN ?hzkT ?hzkk ?hzkd ?hzku ?hzkx ?hzkr ?hzkU ?_; k_extra "D com1"; (case hzs8 => k_extra "D side"); (case hzs7 => k_extra "D side"); (case hzs6 => k_extra "D side"); (case hzs5 => k_extra "D side"); (case hzs4 => k_extra "D side"); (case hzs3 => k_extra "D side"); (case hzs2 => k_extra "D side"); (case hzs1 => k_extra "D side"); (case hzs0 => k_extra "D side")); k_extra "D fin"))))
  k_with "w subscriptTail" => ((fail_if_success k_extra "off L3"); (((refine Halt.out ?_))))
  trivial
theorem my_titem {prog : Program} {w : World} {A : Around} {E : Value → Shared → Prop} {s : Shared} {value slice : PySem.Expr} {l : Addr} {vs : List Value} {k : Int} {u : Tok} {v : Value} {Q : Value → Shared → Prop} {h₀ : Heap} {L : Addr} {news : Led}
    (N : News h₀ L s.heap news) (hm : (l, tupOf vs) ∈ news) (h0 : 0 ≤ k) (hhi : k < vs.length) (hz : vs.length ≤ 5000) (hx : vs[k.toNat]? = some v) (h : Q v s)
    (hs : subscripted slice false (.ref l) (.int k u) = operate [.ref l, .int k u] (getItem (.ref l) (.int k u)) := by with_unfolding_all rfl) :
    wpAny (model prog w) A (subscriptTail value slice (.ref l) (.int k u)) Q E s :=
  tail_any ⟨_, (N _ hm).1, rfl⟩ PySem.F.slot_tuple_getitem.lookup (P.getItem_tuple (N _ hm).1 (by omega) (by omega) (k := k.toNat) (by unfold seqIndex?; simp; omega) (by simpa using hx) h) hs
theorem menu5 {t0 t1 t2 t3 t4 : Tok} {i : Int} (h : 0 ≤ i ∧ i < 5) : ∃ (n : Nat) (t : Tok), [Value.int 2000 t0, .int 1999 t1, .int 2001 t2, .int 3 t3, .int 0 t4][i.toNat]? = some (.int (n : Int) t) ∧ (n = 0 ∨ 3 ≤ n ∧ n ≤ 2001) := by
  obtain ⟨h1, h2⟩ := h
  have : i = 0 ∨ i = 1 ∨ i = 2 ∨ i = 3 ∨ i = 4 := by omega
  rcases this with rfl | rfl | rfl | rfl | rfl
  · exact ⟨2000, t0, rfl, .inr (by omega)⟩
  · exact ⟨1999, t1, rfl, .inr (by omega)⟩
  · exact ⟨2001, t2, rfl, .inr (by omega)⟩
  · exact ⟨3, t3, rfl, .inr (by omega)⟩
  · exact ⟨0, t4, rfl, .inl rfl⟩
theorem far5 {L : Addr} {tl : Led} (h : ∀ p ∈ tl, @LT.lt Nat _ p.1 L) : Fresh (L + 1) tl ∧ Fresh (L + 1 + 1) tl ∧ Fresh (L + 1 + 1 + 1) tl ∧ Fresh (L + 1 + 1 + 1 + 1) tl ∧ Fresh (L + 1 + 1 + 1 + 1 + 1) tl := by
  refine ⟨⟨fun q hq e => ?_⟩, ⟨fun q hq e => ?_⟩, ⟨fun q hq e => ?_⟩, ⟨fun q hq e => ?_⟩, ⟨fun q hq e => ?_⟩⟩ <;> (have := h q hq; rw [e] at this; omega)
noncomputable abbrev cells5 (L : Addr) (o1 o2 o3 o4 o5 : Obj) (tl : Led) : Led := (L + 1 + 1 + 1 + 1 + 1, o1) :: (L + 1 + 1 + 1 + 1, o2) :: (L + 1 + 1 + 1, o3) :: (L + 1 + 1, o4) :: (L + 1, o5) :: tl
noncomputable abbrev lrE (sc : Scope) (L : Addr) : Env := envX (Str.ofString "_law_list_right") sc L 783 (.ref 782) (cellsFrom (L + 1) sc.names [])
noncomputable abbrev lrA (dp un : Nat) (gd : Option (List Code)) (sc : Scope) (L : Addr) (outer : List Env) : Around := ktrTop dp un gd (Str.ofString "_law_list_right") sc L 783 (.ref 782) (cellsFrom (L + 1) sc.names []) outer
section
variable {w : World} {dp un : Nat} {gd : Option (List Code)} {outer : List Env} {A₀ : Around} {base g : Heap} {L : Addr} {h : Heap} {o : Shared} {k : Nat} {p : Program} {loose : List Str} {mean : ExcName → Option Value} {mg mb : Str → Option Value} {E : Value → Shared → Prop}
    {sc : Scope} {bd : List Stmt} {o1 o2 o3 o4 o5 : Obj} {tl : Led} {mm : Str → Option Value} {b : Bool}
noncomputable def P1 (g : Heap) (L : Addr) (o : Shared) (b : Bool) (o1 o2 o3 o5 : Obj) (tl : Led) (f : Flow) (s' : Shared) : Prop :=
  f = .next ∧ ∃ (n : Nat) (la : Int) (t t' : Tok) (o4 : Obj), (n = 0 ∨ 3 ≤ n ∧ n ≤ 2001) ∧ o4.data = .cell (some (.int (n : Int) t)) ∧ Mid g L o [(Str.ofString "by_code", Value.bool b), (Str.ofString "last", .int la t')] (cells5 L o1 o2 o3 o4 o5 tl) s'
theorem listS1 {pn c : Addr} {sp z : Int} {t1 t2 : Tok} {vs : List Value} {ns : List Int} {n1 n2 : Nat} {v1 v2 v3 v4 v5 : Option Value}
    (e1 : scopeAt w 783 = sc) (e2 : stmtsAt w 783 = bd) (hi : IntsAre vs ns) (h0 : 0 ≤ sp) (h9 : sp ≤ 8) (hl : ns.length ≤ 63) (hz : 0 ≤ z) (hz9 : z < 1000) (hc : @Ne Nat c pn)
    (hdp : dp + 60 ≤ recursionLimit) (hun : un + 600 < cLine + 3) (hpL : @LT.lt Nat _ pn L) (hcL : @LT.lt Nat _ c L) (htl : ∀ p ∈ tl, p.1 ≠ pn) (hL : ∀ p ∈ tl, @LT.lt Nat _ p.1 L)
    (d4 : o4.data = .cell v4)
    (B : Below A₀ base outer g) (X : (Mine.K w.params).In g) (T : Top p loose mean mg mb g)
    (F : Fr g L h (kstB mm [(Str.ofString "pen", Value.ref pn), (Str.ofString "by_code", Value.bool b)])) (N : News g L h (cells5 L o1 o2 o3 o4 o5 ((pn, W.listOf #[.ref c, .int sp t1, .int z t2] n1) :: (c, W.listOf vs.toArray n2) :: tl))) :
    wpAny (model PySem.Challenge.rw_qd0072_01.row.prog w) (lrA dp un gd sc L outer) (exec (bd.headD default) (lrE sc L)) (P1 g L o b o1 o2 o3 o5 tl) E (SH o h k) := by
  have he : FnEnv (lrE sc L) L := ⟨_, _, _, _, _, rfl, by rw [← e1]; rfl⟩
  refine' with_lit (w := w) (f := 783) ?ho ?kk
  case ho => k_is
  case' kk => intro f1 f2
  obtain rfl := e1.symm.trans f1
  obtain rfl := e2.symm.trans f2
  clear f1 f2
  dsimp only [List.headD]
  dsimp only [kstB, cells5] at F N
  have hMk : KstMark := kstMark
  obtain ⟨f1, f2, f3, f4, f5⟩ := far5 hL
  k_steps
  refine Halt.go ?_
  obtain ⟨n, tn, hx, hn⟩ := menu5 hP9
  (with_unfolding_all refine' my_titem ?k1 ?k2 ?k3 ?k4 ?k5 hx ?_ ?k6; (case k1 => k_asm); (case k2 => k_mem); (case k3 => omega); (case k4 => (simp only [List.length_cons, List.length_nil]; omega)); (case k5 => exact Nat.le_of_ble_eq_true rfl); (case k6 => with_unfolding_all rfl); k_whole)
  k_steps
  exact ⟨rfl, n, _, _, _, _, hn, by assumption, Mid.of (by assumption) (by assumption) (by kst_all) (by kcj_all)⟩
end
end
theorem offL3 : True := by
  k_with "off L3" => skip
  trivial
section
theorem regL41 : True := by
  k_with "w binaryOp Mult ref int" => ((fail_if_success k_extra "off L4"); (((k_here; (with_reducible show wpAny _ _ (binaryOp Operator.Mult (Value.ref _) (Value.int _ _)) _ _ _); k_dflt (first | (refine' mul_tup1 ?hzk1 ?hzk2 ?hzk3 ?hzk4 ?hzk5 ?_; (case hzk1 => k_asm); (case hzk2 => k_asm); (case hzk3 => k_mem); (case hzk4 => omega); (case hzk5 => omega); k_whole) | (refine' mul_list1 ?hzk1 ?hzk2 ?hzk3 ?hzk4 ?hzk5 ?_; (case hzk1 => k_asm); (case hzk2 => k_asm); (case hzk3 => k_mem); (case hzk4 => omega); (case hzk5 => omega); k_whole)); intro r9 h9 F9 N9))))
  k_with "w binaryOp Add ref ref" => ((fail_if_success k_extra "off L4"); (((k_here; (with_reducible show wpAny _ _ (binaryOp Operator.Add (Value.ref _) (Value.ref _)) _ _ _); k_dflt (refine' add_tup ?hzk1 ?hzk2 ?hzk3 ?hzk4 ?hzk5 ?_; (case hzk1 => k_asm); (case hzk2 => k_asm); (case hzk3 => k_mem); (case hzk4 => k_mem); (case hzk5 => (rw [List.length_replicate]; omega)); k_whole); intro r9 h9 F9 N9))))
  trivial
noncomputable def XS (n : Nat) (la : Int) : List Int := if n = 0 then [] else List.replicate (n - 1) 7 ++ [la]
theorem ints_rep {x : Int} {t : Tok} : ∀ j : Nat, IntsAre (List.replicate j (Value.int x t)) (List.replicate j x)
  | 0 => .nil
  | j + 1 => .cons _ _ (ints_rep j)
theorem xs_pos {n : Nat} {la : Int} {t t' : Tok} (h : 3 ≤ n) : IntsAre (List.replicate ((n : Int) - 1).toNat (Value.int 7 t) ++ [.int la t']) (XS n la) := by
  have e : ((n : Int) - 1).toNat = n - 1 := by omega
  rw [XS, if_neg (by omega), e]
  exact IntsAre.append (ints_rep _) (.cons _ _ .nil)
noncomputable def P2 (g : Heap) (L : Addr) (o : Shared) (b : Bool) (n : Nat) (la : Int) (t' : Tok) (o1 o2 o3 o4 o5 : Obj) (tl : Led) (f : Flow) (s' : Shared) : Prop :=
  f = .next ∧ ∃ (da : Addr) (dueL : List Value), IntsAre dueL (XS n la) ∧ Mid g L o [(Str.ofString "by_code", Value.bool b), (Str.ofString "last", .int la t'), (Str.ofString "due", .ref da)] (cells5 L o1 o2 o3 o4 o5 ((da, tupOf dueL) :: tl)) s'
section
variable {w : World} {dp un : Nat} {gd : Option (List Code)} {outer : List Env} {A₀ : Around} {base g : Heap} {L : Addr} {h : Heap} {o : Shared} {k : Nat} {p : Program} {loose : List Str} {mean : ExcName → Option Value} {mg mb : Str → Option Value} {E : Value → Shared → Prop}
    {sc : Scope} {bd : List Stmt} {o1 o2 o3 o4 o5 : Obj} {tl : Led} {mm : Str → Option Value} {b : Bool} {n : Nat} {la : Int} {t t' : Tok}
theorem listS2 (e1 : scopeAt w 783 = sc) (e2 : stmtsAt w 783 = bd) (hn : n = 0 ∨ 3 ≤ n ∧ n ≤ 2001) (d4 : o4.data = .cell (some (.int (n : Int) t)))
    (hL : ∀ p ∈ tl, @LT.lt Nat _ p.1 L)
    (B : Below A₀ base outer g) (X : (Mine.K w.params).In g) (T : Top p loose mean mg mb g)
    (F : Fr g L h (kstB mm [(Str.ofString "by_code", Value.bool b), (Str.ofString "last", .int la t')])) (N : News g L h (cells5 L o1 o2 o3 o4 o5 tl)) :
    wpAny (model PySem.Challenge.rw_qd0072_01.row.prog w) (lrA dp un gd sc L outer) (exec (bd.getD 1 default) (lrE sc L)) (P2 g L o b n la t' o1 o2 o3 o4 o5 tl) E (SH o h k) := by
  have he : FnEnv (lrE sc L) L := ⟨_, _, _, _, _, rfl, by rw [← e1]; rfl⟩
  refine' with_lit (w := w) (f := 783) ?ho ?kk
  case ho => k_is
  case' kk => intro f1 f2
  obtain rfl := e1.symm.trans f1
  obtain rfl := e2.symm.trans f2
  clear f1 f2
  dsimp only [List.getD, List.getElem?_cons_succ, List.getElem?_cons_zero, Option.getD_some]
  dsimp only [kstB, cells5] at F N
  have hMk : KstMark := kstMark
  rcases hn with rfl | ⟨h3, h4⟩
  · k_steps
    exact ⟨rfl, _, [], IntsAre.nil, Mid.of (by assumption) (by assumption) (by kst_all) (by kcj_all)⟩
  · k_steps
    exact ⟨rfl, _, _, xs_pos h3, Mid.of (by assumption) (by assumption) (by kst_all) (by kcj_all)⟩
end
end
theorem offL4 : True := by
  k_with "off L4" => skip
  trivial
section
theorem add_lst {prog : Program} {w : World} {A : Around} {E : Value → Shared → Prop} {s : Shared} {h₀ : Heap} {L : Addr} {m : Str → Option Value} {news : Led} {a b : Addr} {xs ys : List Value} {n k : Nat} {Q : Value → Shared → Prop}
    (F : Fr h₀ L s.heap m) (N : News h₀ L s.heap news) (ha : (a, W.listOf xs.toArray n) ∈ news) (hb : (b, W.listOf ys.toArray k) ∈ news) (hz : xs.length + ys.length ≤ 5000)
    (h : ∀ r h', Fr h₀ L h' m → News h₀ L h' ((r, W.listOf (xs ++ ys).toArray 0) :: news) → Q (.ref r) { s with heap := h' }) : wpAny (model prog w) A (binaryOp .Add (.ref a) (.ref b)) Q E s :=
  add_lists (vs := xs) (ws := ys) (hsz := by rw [PySem.sizeLine_eq]; omega) F N (News.isList N ha) (News.isList N hb) fun h' F' N' => h _ h' F' N'
theorem regL51 : True := by
  k_with "w binaryOp Add ref ref" => ((fail_if_success k_extra "off L5"); (((k_here; (with_reducible show wpAny _ _ (binaryOp Operator.Add (Value.ref _) (Value.ref _)) _ _ _); k_dflt (refine' add_lst ?hzk1 ?hzk2 ?hzk3 ?hzk4 ?hzk5 ?_; (case hzk1 => k_asm); (case hzk2 => k_asm); (case hzk3 => k_mem); (case hzk4 => k_mem); (case hzk5 => (simp only [List.length_replicate, List.length_cons, List.length_nil]; omega)); k_whole); intro r9 h9 F9 N9))))
  k_with "w binaryOp Mult ref int" => ((fail_if_success k_extra "off L5"); (((k_here; (with_reducible show wpAny _ _ (binaryOp Operator.Mult (Value.ref _) (Value.int _ _)) _ _ _); k_dflt (refine' mul_list1 ?hzk1 ?hzk2 ?hzk3 ?hzk4 ?hzk5 ?_; (case hzk1 => k_asm); (case hzk2 => k_asm); (case hzk3 => k_mem); (case hzk4 => omega); (case hzk5 => omega); k_whole); intro r9 h9 F9 N9))))
  trivial
/-- a list of pairs: the word, and a value -/
noncomputable def Pairs (word : Str) (n : Nat) (qs vals : List Value) (led : Led) : Prop := ∀ i, i < n → ∃ q t v, qs[i]? = some (.ref q) ∧ vals[i]? = some v ∧ (q, tupOf [.str word t, v]) ∈ led
theorem pairs_pos {n : Nat} {q7 ql : Addr} {t1 t2 t3 t' : Tok} {la : Int} (h : 3 ≤ n) : Pairs (Str.ofString "push") n (List.replicate ((n : Int) - 1).toNat (Value.ref q7) ++ [.ref ql]) (List.replicate ((n : Int) - 1).toNat (Value.int 7 t2) ++ [.int la t']) [(q7, tupOf [.str (Str.ofString "push") t1, .int 7 t2]), (ql, tupOf [.str (Str.ofString "push") t3, .int la t'])] := by
  intro i hi
  have e : ((n : Int) - 1).toNat = n - 1 := by omega
  rw [e]
  by_cases hlt : i < n - 1
  · refine ⟨q7, t1, _, ?_, ?_, .head _⟩
    · rw [List.getElem?_append_left (by simpa using hlt)]; simp [hlt]
    · rw [List.getElem?_append_left (by simpa using hlt)]; simp [hlt]
  · obtain rfl : i = n - 1 := by omega
    refine ⟨ql, t3, _, ?_, ?_, .tail _ (.head _)⟩
    · rw [List.getElem?_append_right (by simp)]; simp
    · rw [List.getElem?_append_right (by simp)]; simp
noncomputable def P3 (g : Heap) (L : Addr) (o : Shared) (b : Bool) (n : Nat) (la : Int) (da : Addr) (o1 o2 o3 o4 : Obj) (tl : Led) (f : Flow) (s' : Shared) : Prop :=
  f = .next ∧ ∃ (aa : Addr) (aheadL vals : List Value) (more : Led) (o5 : Obj), aheadL.length = n ∧ IntsAre vals (XS n la) ∧ Pairs (Str.ofString "push") n aheadL vals more ∧ o5.data = .cell (some (.ref aa)) ∧ Mid g L o [(Str.ofString "by_code", Value.bool b), (Str.ofString "due", .ref da)] (cells5 L o1 o2 o3 o4 o5 ((aa, W.listOf aheadL.toArray 0) :: (more ++ tl))) s'
section
variable {w : World} {dp un : Nat} {gd : Option (List Code)} {outer : List Env} {A₀ : Around} {base g : Heap} {L : Addr} {h : Heap} {o : Shared} {k : Nat} {p : Program} {loose : List Str} {mean : ExcName → Option Value} {mg mb : Str → Option Value} {E : Value → Shared → Prop}
    {sc : Scope} {bd : List Stmt} {o1 o2 o3 o4 o5 : Obj} {tl : Led} {mm : Str → Option Value} {b : Bool} {n : Nat} {la : Int} {t t' : Tok} {v5 : Option Value} {da : Addr}
theorem listS3 (e1 : scopeAt w 783 = sc) (e2 : stmtsAt w 783 = bd) (hn : n = 0 ∨ 3 ≤ n ∧ n ≤ 2001) (d4 : o4.data = .cell (some (.int (n : Int) t))) (d5 : o5.data = .cell v5)
    (f5 : Fresh (L + 1) tl)
    (B : Below A₀ base outer g) (X : (Mine.K w.params).In g) (T : Top p loose mean mg mb g)
    (F : Fr g L h (kstB mm [(Str.ofString "by_code", Value.bool b), (Str.ofString "last", .int la t'), (Str.ofString "due", .ref da)])) (N : News g L h (cells5 L o1 o2 o3 o4 o5 tl)) :
    wpAny (model PySem.Challenge.rw_qd0072_01.row.prog w) (lrA dp un gd sc L outer) (exec (bd.getD 2 default) (lrE sc L)) (P3 g L o b n la da o1 o2 o3 o4 tl) E (SH o h k) := by
  have he : FnEnv (lrE sc L) L := ⟨_, _, _, _, _, rfl, by rw [← e1]; rfl⟩
  refine' with_lit (w := w) (f := 783) ?ho ?kk
  case ho => k_is
  case' kk => intro f1 f2
  obtain rfl := e1.symm.trans f1
  obtain rfl := e2.symm.trans f2
  clear f1 f2
  dsimp only [List.getD, List.getElem?_cons_succ, List.getElem?_cons_zero, Option.getD_some]
  dsimp only [kstB, cells5] at F N
  have hMk : KstMark := kstMark
  rcases hn with rfl | ⟨h3, h4⟩
  · k_steps
    exact ⟨rfl, _, [], [], [], _, rfl, IntsAre.nil, fun i hi => absurd hi (Nat.not_lt_zero _), by assumption, Mid.of (by assumption) (by assumption) (by kst_all) (by kcj_all)⟩
  · k_steps
    exact ⟨rfl, _, _, _, _, _, by simp; omega, xs_pos h3, pairs_pos h3, by assumption, Mid.of (by assumption) (by assumption) (by kst_all) (by kcj_all)⟩
end
end
theorem offL5 : True := by
  k_with "off L5" => skip
  trivial
section
theorem pairs_snoc {word : Str} {i : Nat} {ys vals : List Value} {c : Led} {D : Addr} {t : Tok} {v : Value} (h : Pairs word i ys vals c) (hl : ys.length = i) (hv : vals[i]? = some v) : Pairs word (i + 1) (ys ++ [.ref D]) vals ((D, tupOf [.str word t, v]) :: c) := by
  intro j hj
  by_cases e : j < i
  · obtain ⟨q, t', v', a1, a2, a3⟩ := h j e
    exact ⟨q, t', v', by rw [List.getElem?_append_left (by omega)]; exact a1, a2, .tail _ a3⟩
  · obtain rfl : j = i := by omega
    exact ⟨D, t, v, by rw [List.getElem?_append_right (by omega), hl]; simp, hv, .head _⟩
theorem off_new {I C D d : Addr} {ob : Obj} {news : Led} (h : LCg.Off3 I C D news) (h1 : @LT.lt Nat _ I d) (h2 : @LT.lt Nat _ C d) (h3 : @LT.lt Nat _ D d) : LCg.Off3 I C D ((d, ob) :: news) := ⟨⟨Nat.ne_of_gt h1, Nat.ne_of_gt h2, Nat.ne_of_gt h3⟩, h⟩
noncomputable abbrev refsOf (c : Led) : List Value := c.reverse.map fun p => Value.ref p.1
theorem refsOf_len {c : Led} : (refsOf c).length = c.length := by simp [refsOf]
theorem refsOf_cons {p : Addr × Obj} {c : Led} : refsOf (p :: c) = refsOf c ++ [.ref p.1] := by simp [refsOf]
noncomputable def P4 (g : Heap) (L : Addr) (o : Shared) (b : Bool) (n : Nat) (da : Addr) (dueL : List Value) (o1 o2 o3 o4 o5 : Obj) (tl : Led) (f : Flow) (s' : Shared) : Prop :=
  f = .next ∧ ∃ (pa : Addr) (partsL : List Value) (more : Led) (np : Nat), partsL.length = n ∧ Pairs (Str.ofString "number") n partsL dueL more ∧ Mid g L o [(Str.ofString "by_code", Value.bool b), (Str.ofString "due", .ref da), (Str.ofString "parts", .ref pa)] ((pa, W.listOf partsL.toArray np) :: (more ++ cells5 L o1 o2 o3 o4 o5 tl)) s'
theorem regL61 : True := by
  k_with "w CompEnd" => ((fail_if_success k_extra "off L6"); (((refine Halt.out ?_))))
  trivial
section
variable {w : World} {dp un : Nat} {gd : Option (List Code)} {outer : List Env} {A₀ : Around} {base g : Heap} {L : Addr} {h : Heap} {o : Shared} {k : Nat} {p : Program} {loose : List Str} {mean : ExcName → Option Value} {mg mb : Str → Option Value} {E : Value → Shared → Prop}
    {sc : Scope} {bd : List Stmt} {o1 o2 o3 o4 o5 : Obj} {tl : Led} {mm : Str → Option Value} {b : Bool} {n : Nat} {da : Addr} {dueL : List Value}
theorem listS4 (e1 : scopeAt w 783 = sc) (e2 : stmtsAt w 783 = bd) (hn : n ≤ 2001) (hlen : dueL.length = n) (hda : (da, tupOf dueL) ∈ tl)
    (B : Below A₀ base outer g) (X : (Mine.K w.params).In g) (T : Top p loose mean mg mb g)
    (F : Fr g L h (kstB mm [(Str.ofString "by_code", Value.bool b), (Str.ofString "due", .ref da)])) (N : News g L h (cells5 L o1 o2 o3 o4 o5 tl)) :
    wpAny (model PySem.Challenge.rw_qd0072_01.row.prog w) (lrA dp un gd sc L outer) (exec (bd.getD 3 default) (lrE sc L)) (P4 g L o b n da dueL o1 o2 o3 o4 o5 tl) E (SH o h k) := by
  have he : FnEnv (lrE sc L) L := ⟨_, _, _, _, _, rfl, by rw [← e1]; rfl⟩
  refine' with_lit (w := w) (f := 783) ?ho ?kk
  case ho => k_is
  case' kk => intro f1 f2
  obtain rfl := e1.symm.trans f1
  obtain rfl := e2.symm.trans f2
  clear f1 f2
  dsimp only [List.getD, List.getElem?_cons_succ, List.getElem?_cons_zero, Option.getD_some]
  dsimp only [kstB] at F
  have hMk : KstMark := kstMark
  have hm : (da, tupOf dueL) ∈ cells5 L o1 o2 o3 o4 o5 tl := .tail _ (.tail _ (.tail _ (.tail _ (.tail _ hda))))
  generalize hb : cells5 L o1 o2 o3 o4 o5 tl = big at N hm
  refine comp_tup F N rfl (by with_unfolding_all rfl) (by rfl) (by decide) (by rfl) (by decide) (by rfl) (by rfl) (by rfl) (by rfl) (fun Q hq => ?hi) hm (by omega) (fun g' => ?R) (by intro _; rfl)
  case hi => exact Ev.use (h := h) (Ev.loc F he (by rfl) (by rfl) (by kernel_rfl)) hq
  case R =>
    rw [hlen]
    refine comp_nat (σ := Led) (fun _ c => c ++ big) (fun i c => c.length = i ∧ Pairs (Str.ofString "number") i (refsOf c) dueL c) (fun _ c => refsOf c) [] rfl ⟨rfl, fun i hi => absurd hi (Nat.not_lt_zero _)⟩ rfl ?turn ?fin
    case turn =>
      intro i c v I oI C oC D m₂ h3 tk3 E' hi hR hv hC hx3 F3 N3 off ne
      k_steps
      refine Halt.go ?_
      rename News _ _ _ _ => NN
      rename _ ∧ _ ∧ _ ∧ AllLt _ _ => l1
      exact LCg.CompEnd.intro (by assumption) NN (_ :: (c ++ big)) (by kcj_all) (off_new off l1.1 l1.2.1 l1.2.2.1) (List.mem_cons_of_mem _ (List.mem_append_right _ hm)) ⟨_ :: c, rfl, ⟨congrArg Nat.succ hR.1, by rw [refsOf_cons]; exact pairs_snoc hR.2 (refsOf_len.trans hR.1) hv⟩, by rw [refsOf_cons]⟩
    case fin =>
      intro c hR
      intro D h3 tk3 F3 N3 o3
      rw [← hb] at N3
      exact ⟨rfl, _, refsOf c, c, _, by rw [refsOf_len]; exact hR.1, hR.2, Mid.of F3 N3 (by kst_all) fun q hq => hq⟩
end
end
theorem offL6 : True := by
  k_with "off L6" => skip
  trivial
section
theorem minit_d {w : World} {x dx : Addr} {most : Int} {tm : Tok} {news : Led} (l1 : ∀ p ∈ news, p.1 < dx) (l2 : dx < x) :
    Ct w 703 [.ref x, .int most tm] 2 20 ((x, instObj 760 dx) :: (dx, dictOf [] 0) :: news)
      (fun r l => r = .none ∧ R1 (ι := Addr × Addr × Tok) (fun _ => True) (fun i => [i.1, i.2.1]) (fun i => .ref i.1) news (fun i => [(i.1, instObj 760 i.2.1), (i.2.1, mcD w i.2.2 most tm)] ++ news) (.ref x) l) := by
  refine' Ct.of [(Str.ofString "self", .ref x), (Str.ofString "most", .int most tm)] ?ho ?hcd ?hb ?hl ?hco ?hg ?hk ?hc ?bd
  case ho => k_is
  case hcd => k_is
  case hb => exact fun s9 X9 => by first | exact BindsTo.of_eq rfl | exact binds_K X9 rfl (by k_is) rfl rfl rfl
  case hl => exact locs rfl
  case hco => rfl
  case hg => rfl
  case hk => rfl
  case hc => rfl
  case' bd => (intro dp un gd outer A₀ base g L h o k p loose mean mg mb E B F X N T hdp hun he hE; k_fold; have hEO := envOk he (by kernel_rfl); (try have hBO := bindsOk F (by kernel_rfl)); have hMk : KstMark := kstMark)
  k_steps
  exact R1.init (_, _, _) trivial (fresh2 (fresh_of fun p hp => Nat.lt_trans (l1 p hp) l2) (fresh_of l1)) (by assumption) (by assumption) rfl
theorem mkMachine_d {w : World} {most : Int} {tm : Tok} {news : Led} :
    Ct w 760 [.int most tm] 3 30 news
      (R1 (ι := Addr × Addr × Tok) (fun _ => True) (fun i => [i.1, i.2.1]) (fun i => .ref i.1) news (fun i => [(i.1, instObj 760 i.2.1), (i.2.1, mcD w i.2.2 most tm)] ++ news)) := by
  refine' Ct.make (fI := 703) ?a ?b ?c ?d
  case a => k_is
  case b => k_is
  case c => k_is
  case d => exact fun _ _ l1 l2 => minit_d l1 l2
theorem regL71 : True := by
  k_with "w call ref" => ((fail_if_success k_extra "off L7"); (((k_here; (with_reducible show wpAny _ _ (call (Value.ref 760) _) _ _ _); k_dflt (refine' call0 (mkMachine_d ) ?hzkB ?hzkF ?hzkX ?hzkN ?hzkT ?hzkk ?hzkd ?hzku ?_; k_extra "D com"); k_extra "D fin"))))
  trivial
noncomputable def P5 (w : World) (g : Heap) (L : Addr) (o : Shared) (b : Bool) (da pa : Addr) (o3 o4 o5 : Obj) (tl : Led) (f : Flow) (s' : Shared) : Prop :=
  f = .next ∧ ∃ (mx md nd : Addr) (tq tm t0 : Tok) (o1 o2 : Obj), Mid g L o [(Str.ofString "by_code", Value.bool b), (Str.ofString "due", .ref da)] (cells5 L o1 o2 o3 o4 o5 ((mx, instObj 760 md) :: (md, mcD w tq 4100 tm) :: (nd, tupOf [.str (Str.ofString "list") t0, .ref pa]) :: tl)) s' ∧ o1.data = .cell (some (.ref mx)) ∧ o2.data = .cell (some (.ref nd))
section
variable {w : World} {dp un : Nat} {gd : Option (List Code)} {outer : List Env} {A₀ : Around} {base g : Heap} {L : Addr} {h : Heap} {o : Shared} {k : Nat} {p : Program} {loose : List Str} {mean : ExcName → Option Value} {mg mb : Str → Option Value} {E : Value → Shared → Prop}
    {sc : Scope} {bd : List Stmt} {o1 o2 o3 o4 o5 : Obj} {tl : Led} {mm : Str → Option Value} {b : Bool} {n : Nat} {da pa : Addr} {v1 v2 : Option Value}
theorem listS5 (e1 : scopeAt w 783 = sc) (e2 : stmtsAt w 783 = bd) (d1 : o1.data = .cell v1) (d2 : o2.data = .cell v2) (f2 : Fresh (L + 1 + 1 + 1 + 1) tl) (f1 : Fresh (L + 1 + 1 + 1 + 1 + 1) tl)
    (hdp : dp + 60 ≤ recursionLimit) (hun : un + 600 < cLine + 3)
    (B : Below A₀ base outer g) (X : (Mine.K w.params).In g) (T : Top p loose mean mg mb g)
    (F : Fr g L h (kstB mm [(Str.ofString "by_code", Value.bool b), (Str.ofString "due", .ref da), (Str.ofString "parts", .ref pa)])) (N : News g L h (cells5 L o1 o2 o3 o4 o5 tl)) :
    wpAny (model PySem.Challenge.rw_qd0072_01.row.prog w) (lrA dp un gd sc L outer) (exec (bd.getD 4 default) (lrE sc L)) (P5 w g L o b da pa o3 o4 o5 tl) E (SH o h k) := by
  have he : FnEnv (lrE sc L) L := ⟨_, _, _, _, _, rfl, by rw [← e1]; rfl⟩
  refine' with_lit (w := w) (f := 783) ?ho ?kk
  case ho => k_is
  case' kk => intro f1 f2
  obtain rfl := e1.symm.trans f1
  obtain rfl := e2.symm.trans f2
  clear f1 f2
  dsimp only [List.getD, List.getElem?_cons_succ, List.getElem?_cons_zero, Option.getD_some]
  dsimp only [kstB, cells5] at F N
  have hMk : KstMark := kstMark
  k_steps
  exact ⟨rfl, _, _, _, _, _, _, _, _, Mid.of (by assumption) (by assumption) (by kst_all) (by kcj_all), by assumption, by assumption⟩
end
end
theorem offL7 : True := by
  k_with "off L7" => skip
  trivial
section
theorem pairs_app {word : Str} {n : Nat} {ys more vals : List Value} {c c' : Led} (h : Pairs word n ys vals c) (hl : ys.length = n) (hs : ∀ q ∈ c, q ∈ c') : Pairs word n (ys ++ more) vals c' := by
  intro j hj
  obtain ⟨q, t', v', a1, a2, a3⟩ := h j hj
  exact ⟨q, t', v', by rw [List.getElem?_append_left (by omega)]; exact a1, a2, hs _ a3⟩
theorem pairs_sub {word : Str} {n : Nat} {ys vals : List Value} {c c' : Led} (h : Pairs word n ys vals c) (hs : ∀ q ∈ c, q ∈ c') : Pairs word n ys vals c' := by
  intro j hj
  obtain ⟨q, t', v', a1, a2, a3⟩ := h j hj
  exact ⟨q, t', v', a1, a2, hs _ a3⟩
theorem at_app0 {ys : List Value} {a b : Value} {n : Nat} (h : ys.length = n) : (ys ++ [a, b])[n]? = some a := by rw [List.getElem?_append_right (by omega), h]; simp
theorem at_app1 {ys : List Value} {a b : Value} {n : Nat} (h : ys.length = n) : (ys ++ [a, b])[n + 1]? = some b := by rw [List.getElem?_append_right (by omega), h]; simp
theorem len_app2 {ys : List Value} {a b : Value} {n : Nat} (h : ys.length = n) : (ys ++ [a, b]).length = n + 2 := by simp [h]
theorem xs_len {n : Nat} {la : Int} : (XS n la).length = n := by
  unfold XS
  split
  · simp; omega
  · simp; omega
section
variable {w : World} {dp un : Nat} {gd : Option (List Code)} {cn : Str} {cs : Scope} {a : Addr} {ccd : Value} {cl : List (Str × Addr)} {outer : List Env} {A₀ : Around} {base h₀ h : Heap} {L : Addr} {m : Str → Option Value} {o : Shared} {k : Nat} {Q : Value → Shared → Prop} {E : Value → Shared → Prop}
    {p : Program} {loose : List Str} {mean : ExcName → Option Value} {mg mb : Str → Option Value} {led led' : Led} {mx md cx vx nx ql qs : Addr} {own : Value} {tm tm2 tq1 tq2 tq3 : Tok} {codeL dueL : List Value} {nc kz : Nat}
theorem run_at (F : Fr h₀ L h m) (N : News h₀ L h led) (h1 : (mx, instObj 760 md) ∈ led) (h2 : (md, mcD w tm 4100 tm2) ∈ led) (h3 : (cx, W.listOf codeL.toArray nc) ∈ led) (hk9 : kz ≤ 2001) (hlen : codeL.length = kz + 2) (hdl : dueL.length = kz)
    (hq : Pairs (Str.ofString "push") kz codeL dueL led) (hql : codeL[kz]? = some (.ref ql)) (hql2 : (ql, tupOf [.str (Str.ofString "list") tq1, .int kz tq2]) ∈ led) (hqs : codeL[kz + 1]? = some (.ref qs)) (hqs2 : (qs, tupOf [.str (Str.ofString "set") tq3, .none]) ∈ led)
    (B : Below A₀ base outer h₀) (X : (Mine.K w.params).In h₀) (T : Top p loose mean mg mb h₀) (hk : cs.kind = .function) (hd : dp + 30 < recursionLimit) (hu : un + 360 < cLine)
    (OX : OutX base h₀ L (envX cn cs L a ccd cl :: outer) o 107 (fun (_ : PLift (2000 < kz)) _ _ => led') E) (hs : ∀ q ∈ led', q ∈ led)
    (ret : ∀ i h' tk', kz ≤ 2000 → Fr h₀ L h' m → News h₀ L h' ((i, tupOf dueL) :: led) → Q (.ref i) (SH o h' tk')) :
    wpAny (model PySem.Challenge.rw_qd0072_01.row.prog w) (ktrTop dp un gd cn cs L a ccd cl outer) (call (.ref 710) [.ref mx, .ref cx, .ref vx, .ref nx, .none, own]) Q E (SH o h k) := by
  refine callB (run_b (md := md) (tm := tm) (tm2 := tm2) (nc := nc) led hk9 hlen hdl hq hql hql2 hqs hqs2) B F X (fun q hq => ?_) T hk hd hu OX (fun i => ⟨i, fun _ _ => hs⟩) ?_
  · rcases List.mem_cons.mp hq with rfl | hq
    · exact N _ h1
    rcases List.mem_cons.mp hq with rfl | hq
    · exact N _ h2
    rcases List.mem_cons.mp hq with rfl | hq
    · exact N _ h3
    · exact N _ hq
  · rintro r l h' tk' ⟨i, hp, -, rfl, rfl⟩ F' N'
    exact ret i h' tk' hp F' fun q hq => N' q ((List.mem_cons.mp hq).elim (fun z => z ▸ .head _) fun z => .tail _ (.tail _ (.tail _ (.tail _ z))))
variable {ns nd ls pl : Addr} {t0 t1 : Tok} {partsL : List Value} {nl nn : Nat}
theorem eval_at (F : Fr h₀ L h m) (N : News h₀ L h led) (h1 : (mx, instObj 760 md) ∈ led) (h2 : (md, mcD w tm 4100 tm2) ∈ led) (h3 : (ns, W.listOf #[.ref nd] nn) ∈ led) (h4 : (nd, tupOf [.str (Str.ofString "set") t1, .ref ls]) ∈ led) (h5 : (ls, tupOf [.str (Str.ofString "list") t0, .ref pl]) ∈ led) (h6 : (pl, W.listOf partsL.toArray nl) ∈ led)
    (hk9 : kz ≤ 2001) (hx : partsL.length = kz) (hy : dueL.length = kz) (hq : Pairs (Str.ofString "number") kz partsL dueL led)
    (B : Below A₀ base outer h₀) (X : (Mine.K w.params).In h₀) (T : Top p loose mean mg mb h₀) (hk : cs.kind = .function) (hd : dp + 32 < recursionLimit) (hu : un + 360 < cLine)
    (OX : OutX base h₀ L (envX cn cs L a ccd cl :: outer) o 107 (fun (_ : PLift (2000 < kz)) _ _ => led') E) (hs : ∀ q ∈ led', q ∈ led)
    (ret : ∀ i h' tk', kz ≤ 2000 → Fr h₀ L h' m → News h₀ L h' ((i, tupOf dueL) :: led) → Q (.ref i) (SH o h' tk')) :
    wpAny (model PySem.Challenge.rw_qd0072_01.row.prog w) (ktrTop dp un gd cn cs L a ccd cl outer) (call (.ref 738) [.ref mx, .ref ns, .ref vx, .ref nx, .none, own]) Q E (SH o h k) := by
  refine callB (evalList_b (md := md) (nd := nd) (ls := ls) (pl := pl) (tm := tm) (tm2 := tm2) (t0 := t0) (t1 := t1) (most := 4100) (nl := nl) (nn := nn) led (by omega) hx hy hk9 hq) B F X (fun q hq => ?_) T hk hd hu OX (fun i => ⟨i, fun _ _ => hs⟩) ?_
  · rcases List.mem_cons.mp hq with rfl | hq
    · exact N _ h3
    rcases List.mem_cons.mp hq with rfl | hq
    · exact N _ h4
    rcases List.mem_cons.mp hq with rfl | hq
    · exact N _ h5
    rcases List.mem_cons.mp hq with rfl | hq
    · exact N _ h1
    rcases List.mem_cons.mp hq with rfl | hq
    · exact N _ h2
    rcases List.mem_cons.mp hq with rfl | hq
    · exact N _ h6
    · exact N _ hq
  · rintro r l h' tk' ⟨i, hp, -, rfl, rfl⟩ F' N'
    exact ret i h' tk' hp F' fun q hq => N' q ((List.mem_cons.mp hq).elim (fun z => z ▸ .head _) fun z => .tail _ (.tail _ (.tail _ (.tail _ (.tail _ (.tail _ (.tail _ z)))))))
end
end
section
theorem regL81 : True := by
  k_with "w callWith ref" => ((fail_if_success k_extra "off L8"); (((k_here; (with_reducible show wpAny _ _ (callWith _ (Value.ref _) [] (backTo _ (starEach (_ :: _) _)) []) _ _ _); k_dflt (refine' callWith_K ?hzk1 ?hzk2 ?_; (case hzk1 => k_asm); (case hzk2 => k_is); k_whole)))))
  k_with "w eval Lambda" => ((fail_if_success k_extra "off L8"); (((refine Halt.out ?_))))
  k_with "w call ref" => ((fail_if_success k_extra "off L8"); ((((with_reducible show wpAny _ _ (call (Value.ref 778) _) _ _ _); (refine Halt.out ?_)))))
  k_with "w call ref" => ((fail_if_success k_extra "off L8"); ((((with_reducible show wpAny _ _ (call (Value.ref 710) _) _ _ _); (refine Halt.out ?_)))))
  k_with "w binaryOp Add ref ref" => ((fail_if_success k_extra "off L8"); (((k_here; (with_reducible show wpAny _ _ (binaryOp Operator.Add (Value.ref _) (Value.ref _)) _ _ _); k_dflt (refine' add_lst ?hzk1 ?hzk2 ?hzk3 ?hzk4 ?hzk5 ?_; (case hzk1 => k_asm); (case hzk2 => k_asm); (case hzk3 => k_mem); (case hzk4 => k_mem); (case hzk5 => (simp only [List.length_cons, List.length_nil]; omega)); k_whole); intro r9 h9 F9 N9))))
  trivial
noncomputable def P6 (w : World) (g base : Heap) (A₀ : Around) (outer : List Env) (p : Program) (loose : List Str) (mean : ExcName → Option Value) (mg mb : Str → Option Value) (L : Addr) (o : Shared) (n : Nat) (la : Int) (da mx md P : Addr) (tq tm : Tok) (dueL : List Value) (o1 o4 : Obj) (f : Flow) (s' : Shared) : Prop :=
  f = .next ∧ ∃ (g' : Heap) (fa : Addr) (nf : Nat) (ps : Array Value) (o2 o3 o5 : Obj) (rs : List Value) (more : Led), KtsTurn (outer.filterMap (·.frame)) g g' ∧ Below A₀ base outer g' ∧ (Mine.K w.params).In g' ∧ Top p loose mean mg mb g' ∧
    Mid g' L o [(Str.ofString "due", .ref da)] (cells5 L o1 o2 o3 o4 o5 ((fa, W.listOf rs.toArray nf) :: (mx, instObj 760 md) :: (md, mcD w tq 4100 tm) :: (da, tupOf dueL) :: (P, tabObj ps) :: more)) s' ∧ (∃ v, o2.data = .cell v) ∧ (∃ v, o5.data = .cell v) ∧ o3.data = .cell (some (.ref fa)) ∧ TriplesOk ps.toList ∧ codeAmong ⟨686, 22, 686, 129⟩ ps.toList = none ∧
    ((n ≤ 2000 ∧ ∃ ra resL, rs = [.ref ra] ∧ (ra, tupOf resL) ∈ more ∧ IntsAre resL (XS n la)) ∨ (2000 < n ∧ rs = []))
section
variable {w : World} {dp un : Nat} {gd : Option (List Code)} {outer : List Env} {A₀ : Around} {base g : Heap} {L : Addr} {h : Heap} {o : Shared} {k : Nat} {p : Program} {loose : List Str} {mean : ExcName → Option Value} {mg mb : Str → Option Value} {E : Value → Shared → Prop}
    {sc : Scope} {bd : List Stmt} {o1 o2 o3 o4 o5 : Obj} {tl : Led} {mm : Str → Option Value} {n : Nat} {la : Int} {da pa aa mx md nd P : Addr} {tq tm t0 tc : Tok} {v2 v3 v5 : Option Value} {np : Nat} {partsL : List Value} {aheadL vals dueL : List Value}
theorem listS6a (e1 : scopeAt w 783 = sc) (e2 : stmtsAt w 783 = bd) (d1 : o1.data = .cell (some (.ref mx))) (d2 : o2.data = .cell v2) (d3 : o3.data = .cell v3) (d4 : o4.data = .cell (some (.int (n : Int) tc))) (d5 : o5.data = .cell (some (.ref aa)))
    (hn : n ≤ 2001) (hal : aheadL.length = n) (hv : IntsAre vals (XS n la)) (hp : Pairs (Str.ofString "push") n aheadL vals tl) (hda : (da, tupOf dueL) ∈ tl) (fP : Fresh P tl) (f3 : Fresh (L + 1 + 1 + 1) tl) (hC : CodeHd base 782 P)
    (hdp : dp + 60 ≤ recursionLimit) (hun : un + 600 < cLine + 3)
    (B : Below A₀ base outer g) (X : (Mine.K w.params).In g) (T : Top p loose mean mg mb g) (XB : (Mine.K w.params).In base) (TB : Top p loose mean mg mb base) (D : KtsDicts (outer.filterMap (·.frame)) g)
    (F : Fr g L h (kstB mm [(Str.ofString "by_code", Value.bool true), (Str.ofString "due", .ref da)])) (N : News g L h (cells5 L o1 o2 o3 o4 o5 ((P, tabObj #[]) :: (mx, instObj 760 md) :: (md, mcD w tq 4100 tm) :: (aa, W.listOf aheadL.toArray 0) :: tl))) :
    wpAny (model PySem.Challenge.rw_qd0072_01.row.prog w) (lrA dp un gd sc L outer) (exec (bd.getD 5 default) (lrE sc L)) (P6 w g base A₀ outer p loose mean mg mb L o n la da mx md P tq tm dueL o1 o4) E (SH o h k) := by
  have he : FnEnv (lrE sc L) L := ⟨_, _, _, _, _, rfl, by rw [← e1]; rfl⟩
  refine' with_lit (w := w) (f := 783) ?ho ?kk
  case ho => k_is
  case' kk => intro f1 f2
  obtain rfl := e1.symm.trans f1
  obtain rfl := e2.symm.trans f2
  clear f1 f2
  dsimp only [List.getD, List.getElem?_cons_succ, List.getElem?_cons_zero, Option.getD_some]
  dsimp only [kstB, cells5] at F N
  have hMk : KstMark := kstMark
  have hCg := hC.keeps B.stays
  k_steps
  refine Halt.go ?_
  refine' kla_eval ?d0 ?_
  case d0 => exact rfl
  refine' kla_nest F N T hCg ?cd ?U ?t ?n ?cl ?_
  case cd => exact rfl
  case U => k_updF
  case t => kn_triples
  case n => kn_among
  case cl => exact rfl
  intro f9 c9 oc9 vs9 tt9 ctv9 h9 tk9 F9 N9 hd9 hv9 l1 l2
  have lc9 : @LT.lt Nat _ (L + 1 + 1 + 1) c9 := l1 (L + 1 + 1 + 1, o3) (by k_mem)
  k_steps
  refine Halt.go ?_
  refine' callRan (ι := Addr) (ι' := PLift (2000 < n)) (P := fun _ => n ≤ 2000) (val := fun i => .ref i) (more := fun i => [(i, tupOf vals)]) F9 N9 ?hm ?H B X T XB TB D rfl ?hd ?hu ?ret
  case hm => k_mem
  case hd => omega
  case hu => omega
  case H =>
    clear F9 N9 F N B X T XB TB D he hCg hdp hun l1 l2 lc9
    refine' CtB.ofLam ?ho ?hc hd9 hv9 ?hb ?h1 ?h2 ?h3 ?h4 ?bd
    case ho => k_mem
    case hc => k_mem
    case hb => exact rfl
    case h1 => exact rfl
    case h2 => exact rfl
    case h3 => exact rfl
    case h4 => exact rfl
    case' bd => intro dp un gd outer A₀ base g L' h o k p loose mean mg mb E B F X N T hdp hun he OX
    k_steps
    refine Halt.go ?_
    rename Fr _ _ _ _ => F9
    rename News _ _ _ _ => N9
    refine run_at (codeL := aheadL ++ [_, _]) (dueL := vals) (kz := n) F9 N9 (by k_mem) (by k_mem) (by k_mem) hn (len_app2 hal) (hv.length.trans xs_len) (pairs_app hp hal (by kcj_all)) (at_app0 hal) (by k_mem) (at_app1 hal) (by k_mem) B X T rfl (by omega) (by omega) (by k_extra "B out") (by kcj_all) (fun i h8 tk8 hle F8 N8 => ?_)
    k_steps
    exact R1.ret _ hle nofresh F8 N8 rfl (by kcj_all)
  case ret =>
    intro b9 n9 h8 tk8 g8 T8 B8 X8 P8 F8 hc
    rcases hc with ⟨i, hle, N8⟩ | ⟨⟨hlt⟩, N8⟩
    · dsimp only [List.cons_append, List.nil_append] at N8
      k_steps
      exact ⟨rfl, g8, b9, n9, _, o2, _, o5, [.ref i], [(i, tupOf vals)], T8, B8, X8, P8, Mid.of (by assumption) (by assumption) (by kst_all) (by kcj_all), ⟨_, d2⟩, ⟨_, d5⟩, by assumption, by kn_triples, by kn_among, .inl ⟨hle, i, vals, rfl, .head _, hv⟩⟩
    · k_steps
      exact ⟨rfl, g8, b9, n9, _, o2, _, o5, [], [], T8, B8, X8, P8, Mid.of (by assumption) (by assumption) (by kst_all) (by kcj_all), ⟨_, d2⟩, ⟨_, d5⟩, by assumption, by kn_triples, by kn_among, .inr ⟨hlt.down, rfl⟩⟩
end
end
theorem offL8 : True := by
  k_with "off L8" => skip
  trivial
section
theorem regL101 : True := by
  k_with "w callWith ref" => ((fail_if_success k_extra "off L10"); (((k_here; (with_reducible show wpAny _ _ (callWith _ (Value.ref _) [] (backTo _ (starEach (_ :: _) _)) []) _ _ _); k_dflt (refine' callWith_K ?hzk1 ?hzk2 ?_; (case hzk1 => k_asm); (case hzk2 => k_is); k_whole)))))
  k_with "w eval Lambda" => ((fail_if_success k_extra "off L10"); (((refine Halt.out ?_))))
  k_with "w call ref" => ((fail_if_success k_extra "off L10"); ((((with_reducible show wpAny _ _ (call (Value.ref 778) _) _ _ _); (refine Halt.out ?_)))))
  k_with "w call ref" => ((fail_if_success k_extra "off L10"); ((((with_reducible show wpAny _ _ (call (Value.ref 738) _) _ _ _); (refine Halt.out ?_)))))
  trivial
section
variable {w : World} {dp un : Nat} {gd : Option (List Code)} {outer : List Env} {A₀ : Around} {base g : Heap} {L : Addr} {h : Heap} {o : Shared} {k : Nat} {p : Program} {loose : List Str} {mean : ExcName → Option Value} {mg mb : Str → Option Value} {E : Value → Shared → Prop}
    {sc : Scope} {bd : List Stmt} {o1 o2 o3 o4 o5 : Obj} {tl : Led} {mm : Str → Option Value} {n : Nat} {la : Int} {da pa aa mx md nd P : Addr} {tq tm t0 tc : Tok} {v2 v3 v5 : Option Value} {np : Nat} {partsL : List Value} {aheadL vals dueL : List Value}
theorem listS6b (e1 : scopeAt w 783 = sc) (e2 : stmtsAt w 783 = bd) (d1 : o1.data = .cell (some (.ref mx))) (d2 : o2.data = .cell (some (.ref nd))) (d3 : o3.data = .cell v3) (d4 : o4.data = .cell (some (.int (n : Int) tc))) (d5 : o5.data = .cell v5)
    (hn : n ≤ 2001) (hal : partsL.length = n) (hv : IntsAre dueL (XS n la)) (hp : Pairs (Str.ofString "number") n partsL dueL tl) (hda : (da, tupOf dueL) ∈ tl) (fP : Fresh P tl) (f3 : Fresh (L + 1 + 1 + 1) tl) (hC : CodeHd base 782 P)
    (hdp : dp + 60 ≤ recursionLimit) (hun : un + 600 < cLine + 3)
    (B : Below A₀ base outer g) (X : (Mine.K w.params).In g) (T : Top p loose mean mg mb g) (XB : (Mine.K w.params).In base) (TB : Top p loose mean mg mb base) (D : KtsDicts (outer.filterMap (·.frame)) g)
    (F : Fr g L h (kstB mm [(Str.ofString "by_code", Value.bool false), (Str.ofString "due", .ref da)])) (N : News g L h (cells5 L o1 o2 o3 o4 o5 ((P, tabObj #[]) :: (mx, instObj 760 md) :: (md, mcD w tq 4100 tm) :: (nd, tupOf [.str (Str.ofString "list") t0, .ref pa]) :: (pa, W.listOf partsL.toArray np) :: tl))) :
    wpAny (model PySem.Challenge.rw_qd0072_01.row.prog w) (lrA dp un gd sc L outer) (exec (bd.getD 5 default) (lrE sc L)) (P6 w g base A₀ outer p loose mean mg mb L o n la da mx md P tq tm dueL o1 o4) E (SH o h k) := by
  have he : FnEnv (lrE sc L) L := ⟨_, _, _, _, _, rfl, by rw [← e1]; rfl⟩
  refine' with_lit (w := w) (f := 783) ?ho ?kk
  case ho => k_is
  case' kk => intro f1 f2
  obtain rfl := e1.symm.trans f1
  obtain rfl := e2.symm.trans f2
  clear f1 f2
  dsimp only [List.getD, List.getElem?_cons_succ, List.getElem?_cons_zero, Option.getD_some]
  dsimp only [kstB, cells5] at F N
  have hMk : KstMark := kstMark
  have hCg := hC.keeps B.stays
  k_steps
  refine Halt.go ?_
  refine' kla_eval ?d0 ?_
  case d0 => exact rfl
  refine' kla_nest F N T hCg ?cd ?U ?t ?n ?cl ?_
  case cd => exact rfl
  case U => k_updF
  case t => kn_triples
  case n => kn_among
  case cl => exact rfl
  intro f9 c9 oc9 vs9 tt9 ctv9 h9 tk9 F9 N9 hd9 hv9 l1 l2
  have lc9 : @LT.lt Nat _ (L + 1 + 1 + 1) c9 := l1 (L + 1 + 1 + 1, o3) (by k_mem)
  k_steps
  refine Halt.go ?_
  refine' callRan (ι := Addr) (ι' := PLift (2000 < n)) (P := fun _ => n ≤ 2000) (val := fun i => .ref i) (more := fun i => [(i, tupOf dueL)]) F9 N9 ?hm ?H B X T XB TB D rfl ?hd ?hu ?ret
  case hm => k_mem
  case hd => omega
  case hu => omega
  case H =>
    clear F9 N9 F N B X T XB TB D he hCg hdp hun l1 l2 lc9
    refine' CtB.ofLam ?ho ?hc hd9 hv9 ?hb ?h1 ?h2 ?h3 ?h4 ?bd
    case ho => k_mem
    case hc => k_mem
    case hb => exact rfl
    case h1 => exact rfl
    case h2 => exact rfl
    case h3 => exact rfl
    case h4 => exact rfl
    case' bd => intro dp un gd outer A₀ base g L' h o k p loose mean mg mb E B F X N T hdp hun he OX
    k_steps
    refine Halt.go ?_
    rename Fr _ _ _ _ => F9
    rename News _ _ _ _ => N9
    refine eval_at (partsL := partsL) (dueL := dueL) (kz := n) F9 N9 (by k_mem) (by k_mem) (by k_mem) (by k_mem) (by k_mem) (by k_mem) hn hal (hv.length.trans xs_len) (pairs_sub hp (by kcj_all)) B X T rfl (by omega) (by omega) (by k_extra "B out") (by kcj_all) (fun i h8 tk8 hle F8 N8 => ?_)
    k_steps
    exact R1.ret _ hle nofresh F8 N8 rfl (by kcj_all)
  case ret =>
    intro b9 n9 h8 tk8 g8 T8 B8 X8 P8 F8 hc
    rcases hc with ⟨i, hle, N8⟩ | ⟨⟨hlt⟩, N8⟩
    · dsimp only [List.cons_append, List.nil_append] at N8
      k_steps
      exact ⟨rfl, g8, b9, n9, _, o2, _, o5, [.ref i], [(i, tupOf dueL)], T8, B8, X8, P8, Mid.of (by assumption) (by assumption) (by kst_all) (by kcj_all), ⟨_, d2⟩, ⟨_, d5⟩, by assumption, by kn_triples, by kn_among, .inl ⟨hle, i, dueL, rfl, .head _, hv⟩⟩
    · k_steps
      exact ⟨rfl, g8, b9, n9, _, o2, _, o5, [], [], T8, B8, X8, P8, Mid.of (by assumption) (by assumption) (by kst_all) (by kcj_all), ⟨_, d2⟩, ⟨_, d5⟩, by assumption, by kn_triples, by kn_among, .inr ⟨hlt.down, rfl⟩⟩
end
end
theorem offL10 : True := by
  k_with "off L10" => skip
  trivial
section
section
variable {w : World} {dp un : Nat} {gd : Option (List Code)} {cn : Str} {cs : Scope} {a : Addr} {ccd : Value} {cl : List (Str × Addr)} {outer : List Env} {A₀ : Around} {base h₀ h : Heap} {L : Addr} {m : Str → Option Value} {o : Shared} {k : Nat} {Q : Value → Shared → Prop} {E : Value → Shared → Prop}
    {p : Program} {loose : List Str} {mean : ExcName → Option Value} {mg mb : Str → Option Value} {led led' : Led} {mx md cx vx nx oa : Addr} {tm tm2 t0 t1 t2 t3 t4 t5 : Tok} {xs : List Value} {nc kz : Nat} {v : Value}
theorem len_at {ns nd ls pl q : Addr} {nn nl : Nat} (F : Fr h₀ L h m) (N : News h₀ L h led) (h1 : (mx, instObj 760 md) ∈ led) (h2 : (md, mcD w tm 4100 tm2) ∈ led) (h3 : (ns, W.listOf #[.ref nd] nn) ∈ led) (h4 : (nd, tupOf [.str (Str.ofString "set") t3, .ref ls]) ∈ led)
    (h5 : (ls, tupOf [.str (Str.ofString "apply") t0, .str (Str.ofString "len") t1, .ref pl]) ∈ led) (h6 : (pl, W.listOf #[.ref q] nl) ∈ led) (h7 : (q, tupOf [.str (Str.ofString "own") t2]) ∈ led) (h8 : (oa, tupOf xs) ∈ led) (hx : xs.length = kz) (hk9 : kz ≤ 2001)
    (B : Below A₀ base outer h₀) (X : (Mine.K w.params).In h₀) (T : Top p loose mean mg mb h₀) (hk : cs.kind = .function) (hd : dp + 24 < recursionLimit) (hu : un + 220 < cLine)
    (ret : ∀ i h' tk', Fr h₀ L h' m → News h₀ L h' led → Q (.int kz i) (SH o h' tk')) :
    wpAny (model PySem.Challenge.rw_qd0072_01.row.prog w) (ktrTop dp un gd cn cs L a ccd cl outer) (call (.ref 738) [.ref mx, .ref ns, .ref vx, .ref nx, .none, .ref oa]) Q E (SH o h k) := by
  refine call0 (more := fun _ => []) (evalLen_d (md := md) (nd := nd) (ls := ls) (q := q) (pl := pl) (tm := tm) (tm2 := tm2) (t0 := t0) (t1 := t1) (t2 := t2) (t3 := t3) (most := 4100) (nl := nl) (nn := nn) (by decide) hx hk9 led) B F X (fun z hz => ?_) T hk hd hu (fun i h' tk' _ _ F' N' => ret i h' tk' F' fun z hz => N' z (.tail _ (.tail _ (.tail _ (.tail _ (.tail _ (.tail _ (.tail _ (.tail _ hz)))))))))
  rcases List.mem_cons.mp hz with rfl | hz
  · exact N _ h3
  rcases List.mem_cons.mp hz with rfl | hz
  · exact N _ h4
  rcases List.mem_cons.mp hz with rfl | hz
  · exact N _ h5
  rcases List.mem_cons.mp hz with rfl | hz
  · exact N _ h6
  rcases List.mem_cons.mp hz with rfl | hz
  · exact N _ h7
  rcases List.mem_cons.mp hz with rfl | hz
  · exact N _ h8
  rcases List.mem_cons.mp hz with rfl | hz
  · exact N _ h1
  rcases List.mem_cons.mp hz with rfl | hz
  · exact N _ h2
  · exact N _ hz
theorem push_at {q1 q2 q3 q4 : Addr} (F : Fr h₀ L h m) (N : News h₀ L h led) (h1 : (mx, instObj 760 md) ∈ led) (h2 : (md, mcD w tm 4100 tm2) ∈ led) (h3 : (cx, W.listOf [Value.ref q1, .ref q2, .ref q3, .ref q4].toArray nc) ∈ led) (h4 : (q1, tupOf [.str (Str.ofString "own") t1, .none]) ∈ led) (h5 : (q2, tupOf [.str (Str.ofString "push") t2, v]) ∈ led)
    (h6 : (q3, tupOf [.str (Str.ofString "apply") t3, .str (Str.ofString "push") t4]) ∈ led) (h7 : (q4, tupOf [.str (Str.ofString "set") t5, .none]) ∈ led) (h8 : (oa, tupOf xs) ∈ led) (hx : xs.length = kz) (hk9 : kz + 1 ≤ 2001)
    (B : Below A₀ base outer h₀) (X : (Mine.K w.params).In h₀) (T : Top p loose mean mg mb h₀) (hk : cs.kind = .function) (hd : dp + 30 < recursionLimit) (hu : un + 360 < cLine)
    (OX : OutX base h₀ L (envX cn cs L a ccd cl :: outer) o 107 (fun (_ : PLift (2000 < kz + 1)) _ _ => led') E) (hs : ∀ q ∈ led', q ∈ led)
    (ret : ∀ i h' tk', kz + 1 ≤ 2000 → Fr h₀ L h' m → News h₀ L h' ((i, tupOf (xs ++ [v])) :: led) → Q (.ref i) (SH o h' tk')) :
    wpAny (model PySem.Challenge.rw_qd0072_01.row.prog w) (ktrTop dp un gd cn cs L a ccd cl outer) (call (.ref 710) [.ref mx, .ref cx, .ref vx, .ref nx, .none, .ref oa]) Q E (SH o h k) := by
  refine callB (runPush_b (md := md) (q1 := q1) (q2 := q2) (q3 := q3) (q4 := q4) (v := v) (tm := tm) (tm2 := tm2) (t1 := t1) (t2 := t2) (t3 := t3) (t4 := t4) (t5 := t5) (nc := nc) led hx hk9) B F X (fun z hz => ?_) T hk hd hu OX (fun i => ⟨i, fun _ _ => hs⟩) ?_
  · rcases List.mem_cons.mp hz with rfl | hz
    · exact N _ h1
    rcases List.mem_cons.mp hz with rfl | hz
    · exact N _ h2
    rcases List.mem_cons.mp hz with rfl | hz
    · exact N _ h3
    rcases List.mem_cons.mp hz with rfl | hz
    · exact N _ h4
    rcases List.mem_cons.mp hz with rfl | hz
    · exact N _ h5
    rcases List.mem_cons.mp hz with rfl | hz
    · exact N _ h6
    rcases List.mem_cons.mp hz with rfl | hz
    · exact N _ h7
    rcases List.mem_cons.mp hz with rfl | hz
    · exact N _ h8
    · exact N _ hz
  · rintro r l h' tk' ⟨i, hp, -, rfl, rfl⟩ F' N'
    exact ret i h' tk' hp F' fun q hq => N' q ((List.mem_cons.mp hq).elim (fun z => z ▸ .head _) fun z => .tail _ (.tail _ (.tail _ (.tail _ (.tail _ (.tail _ (.tail _ (.tail _ (.tail _ z)))))))))
end
end
section
theorem regL12a1 : True := by
  k_with "w eval Lambda" => ((fail_if_success k_extra "off L12a"); (((refine Halt.out ?_))))
  k_with "w call ref" => ((fail_if_success k_extra "off L12a"); ((((with_reducible show wpAny _ _ (call (Value.ref 778) _) _ _ _); (refine Halt.out ?_)))))
  k_with "w call ref" => ((fail_if_success k_extra "off L12a"); ((((with_reducible show wpAny _ _ (call (Value.ref 738) _) _ _ _); (refine Halt.out ?_)))))
  k_with "w call ref" => ((fail_if_success k_extra "off L12a"); ((((with_reducible show wpAny _ _ (call (Value.ref 710) _) _ _ _); (refine Halt.out ?_)))))
  k_with "w compareOp NotEq ref ref" => ((fail_if_success k_extra "off L12a"); (((k_here; (with_reducible show wpAny _ _ (compareOp CmpOp.NotEq (Value.ref _) (Value.ref _)) _ _ _); k_dflt (refine' ne_one ?hzk1 ?hzk2 ?hzk3 ?hzk4 ?hzk5 ?hzk6 ?hzk7 ?hzk8 ?hzk9 ?_; (case hzk1 => k_asm); (case hzk2 => k_mem); (case hzk3 => k_mem); (case hzk4 => k_mem); (case hzk5 => k_mem); (case hzk6 => assumption); (case hzk7 => assumption); (case hzk8 => ktr_units); (case hzk9 => ktr_units); k_whole)))))
  trivial
noncomputable def LPost (P : Addr) (r : Value) (l : Led) : Prop := r = .bool true ∧ ∃ ps, (P, tabObj ps) ∈ l
section
variable {w : World} {dp un : Nat} {gd : Option (List Code)} {outer : List Env} {A₀ : Around} {base g g₀ : Heap} {L : Addr} {h : Heap} {o : Shared} {k : Nat} {p : Program} {loose : List Str} {mean : ExcName → Option Value} {mg mb : Str → Option Value} {E : Value → Shared → Prop}
    {sc : Scope} {bd : List Stmt} {o1 o2 o3 o4 o5 : Obj} {tl : Led} {mm : Str → Option Value} {n nf : Nat} {la : Int} {da mx md P fa ra : Addr} {tq tm tc : Tok} {v2 v5 : Option Value} {dueL resL : List Value} {ps : Array Value}
theorem listEnd0 (e1 : scopeAt w 783 = sc) (e2 : stmtsAt w 783 = bd) (d3 : o3.data = .cell (some (.ref fa))) (d4 : o4.data = .cell (some (.int (n : Int) tc))) (hn : 2000 < n) (hdp : dp + 60 ≤ recursionLimit) (hun : un + 600 < cLine + 3)
    (T0 : KtsTurn (outer.filterMap (·.frame)) g₀ g) (B : Below A₀ base outer g) (X : (Mine.K w.params).In g) (T : Top p loose mean mg mb g)
    (F : Fr g L h (kstB mm [(Str.ofString "due", .ref da)])) (N : News g L h (cells5 L o1 o2 o3 o4 o5 ((fa, W.listOf #[] nf) :: (P, tabObj ps) :: tl))) :
    wpAny (model PySem.Challenge.rw_qd0072_01.row.prog w) (lrA dp un gd sc L outer) (execs (bd.drop 6) (lrE sc L)) (EndedT (LPost P) g₀ (outer.filterMap (·.frame)) L o) E (SH o h k) := by
  have he : FnEnv (lrE sc L) L := ⟨_, _, _, _, _, rfl, by rw [← e1]; rfl⟩
  refine' with_lit (w := w) (f := 783) ?ho ?kk
  case ho => k_is
  case' kk => intro f1 f2
  obtain rfl := e1.symm.trans f1
  obtain rfl := e2.symm.trans f2
  clear f1 f2
  dsimp only [List.drop]
  dsimp only [kstB, cells5] at F N
  have hMk : KstMark := kstMark
  k_steps
  rename Fr _ _ _ _ => F9
  rename News _ _ _ _ => N9
  exact EndedT.ret T0 ⟨rfl, ps, by k_mem⟩ F9 N9
end
end
theorem offL12a : True := by
  k_with "off L12a" => skip
  trivial
section
theorem regL12b1 : True := by
  k_with "w eval Lambda" => ((fail_if_success k_extra "off L12b"); (((refine Halt.out ?_))))
  k_with "w call ref" => ((fail_if_success k_extra "off L12b"); ((((with_reducible show wpAny _ _ (call (Value.ref 778) _) _ _ _); (refine Halt.out ?_)))))
  k_with "w call ref" => ((fail_if_success k_extra "off L12b"); ((((with_reducible show wpAny _ _ (call (Value.ref 710) _) _ _ _); (refine Halt.out ?_)))))
  k_with "w callWith ref" => ((fail_if_success k_extra "off L12b"); (((k_here; (with_reducible show wpAny _ _ (callWith _ (Value.ref _) [] (backTo _ (starEach (_ :: _) _)) []) _ _ _); k_dflt (refine' callWith_K ?hzk1 ?hzk2 ?_; (case hzk1 => k_asm); (case hzk2 => k_is); k_whole)))))
  trivial
theorem cw_760 {prog : Program} {w : World} {A : Around} {E : Value → Shared → Prop} {s : Shared} {h₀ : Heap} {L xx f : Addr} {m : Str → Option Value} {name : Str} {pos : Pos} {e : PySem.Expr} {rest : List PySem.Expr} {env : Env} {Q : Value → Shared → Prop} (F : Fr h₀ L s.heap m) (X : (Mine.K w.params).In h₀) (mf : MethF (Mine.K w.params) 760 name f)
    (h : wpAny (model prog w) A (spliced (backTo pos (starEach (e :: rest) env))) (fun vs s₁ => (Mine.K w.params).In s₁.heap ∧ wpAny (model prog w) A (call (.ref f) ([.ref xx] ++ vs)) Q E s₁) E s)
    (he : starEach (e :: rest) env = (false, eval e env) :: starEach rest env) (hp : ((backTo pos (starEach rest env)).any fun x => x.1) = false) : wpAny (model prog w) A (callWith pos (.ref f) [.ref xx] (backTo pos (starEach (e :: rest) env)) []) Q E s :=
  callWith_K (X.keeps F.keep) mf.go.2.2.2 h he hp
theorem my_method {prog : Program} {w : World} {A : Around} {E : Value → Shared → Prop} {s : Shared} {h₀ : Heap} {L xx C d f : Addr} {m : Str → Option Value} {news : Led} {es : List DictEntry} {n : Nat} {name : Str} {pl : Sem Bool} {Q : Value × List Value → Shared → Prop} (F : Fr h₀ L s.heap m) (X : (Mine.K w.params).In h₀) (N : News h₀ L s.heap news) (hx : (xx, instObj C d) ∈ news) (hd : (d, dictOf es n) ∈ news)
    (mf : MethF (Mine.K w.params) C name f) (hg : getL name es = some none) (h : Q (.ref f, [.ref xx]) s) : wpAny (model prog w) A (getMethod (.ref xx) name pl) Q E s :=
  method_inst F X (InstAt.of_news N hx hd) mf.go.1 mf.go.2.1 mf.go.2.2.1 hg h
theorem regL12b2 : True := by
  k_with "w getMethod ref" => ((fail_if_success k_extra "off L12b"); (((k_here; (with_reducible show wpAny _ _ (getMethod (Value.ref _) _ _) _ _ _); k_dflt (refine' my_method ?hzF ?hzX ?hzN ?hzx ?hzd ?hzm ?hzg ?_; (case hzF => k_asm); (case hzX => k_asm); (case hzN => k_asm); (case hzx => k_mem); (case hzd => k_mem); (case hzm => with_reducible first | exact mf_760_evaluate | exact mf_760_run); (case hzg => rfl); k_whole); (with_reducible show wpAny _ _ (callWith _ (Value.ref _) [Value.ref _] _ _) _ _ _)))))
  k_with "w callWith ref" => ((fail_if_success k_extra "off L12b"); ((((with_reducible show wpAny _ _ (callWith _ (Value.ref _) [Value.ref _] _ _) _ _ _); refine Halt.out ?_))))
  trivial
noncomputable def P8 (g base : Heap) (A₀ : Around) (outer : List Env) (w : World) (p : Program) (loose : List Str) (mean : ExcName → Option Value) (mg mb : Str → Option Value) (L : Addr) (o : Shared) (n : Nat) (da P : Addr) (dueL resL : List Value) (o1 o2 o3 o4 o5 : Obj) (f : Flow) (s' : Shared) : Prop :=
  f = .next ∧ ∃ (g' : Heap) (b9 : Addr) (nf : Nat) (ps : Array Value) (rs : List Value) (more : Led), KtsTurn (outer.filterMap (·.frame)) g g' ∧ Below A₀ base outer g' ∧ (Mine.K w.params).In g' ∧ Top p loose mean mg mb g' ∧
    Mid g' L o [(Str.ofString "due", .ref da), (Str.ofString "pushed", .ref b9)] (cells5 L o1 o2 o3 o4 o5 ((b9, W.listOf rs.toArray nf) :: (da, tupOf dueL) :: (P, tabObj ps) :: more)) s' ∧
    ((n + 1 ≤ 2000 ∧ ∃ ra t, rs = [.ref ra] ∧ more = [(ra, tupOf (resL ++ [.int 8 t]))]) ∨ (2000 < n + 1 ∧ rs = [] ∧ more = []))
section
variable {w : World} {dp un : Nat} {gd : Option (List Code)} {outer : List Env} {A₀ : Around} {base g g₀ : Heap} {L : Addr} {h : Heap} {o : Shared} {k : Nat} {p : Program} {loose : List Str} {mean : ExcName → Option Value} {mg mb : Str → Option Value} {E : Value → Shared → Prop}
    {sc : Scope} {bd : List Stmt} {o1 o2 o3 o4 o5 : Obj} {tl : Led} {mm : Str → Option Value} {n nf : Nat} {la : Int} {da mx md P fa ra : Addr} {tq tm tc : Tok} {v2 v5 : Option Value} {dueL resL : List Value} {ps : Array Value}
theorem listS8 (e1 : scopeAt w 783 = sc) (e2 : stmtsAt w 783 = bd) (d1 : o1.data = .cell (some (.ref mx))) (d2 : o2.data = .cell v2) (d3 : o3.data = .cell (some (.ref fa))) (d4 : o4.data = .cell (some (.int (n : Int) tc))) (d5 : o5.data = .cell v5) (hn : n ≤ 2000)
    (hr : IntsAre resL (XS n la)) (ht : TriplesOk ps.toList) (hca : codeAmong ⟨686, 22, 686, 129⟩ ps.toList = none) (fP : Fresh P tl) (hC : CodeHd base 782 P)
    (hdp : dp + 60 ≤ recursionLimit) (hun : un + 600 < cLine + 3)
    (B : Below A₀ base outer g) (X : (Mine.K w.params).In g) (T : Top p loose mean mg mb g) (XB : (Mine.K w.params).In base) (TB : Top p loose mean mg mb base) (D : KtsDicts (outer.filterMap (·.frame)) g)
    (F : Fr g L h (kstB mm [(Str.ofString "due", .ref da)])) (N : News g L h (cells5 L o1 o2 o3 o4 o5 ((P, tabObj ps) :: (mx, instObj 760 md) :: (md, mcD w tq 4100 tm) :: (fa, W.listOf #[.ref ra] nf) :: (da, tupOf dueL) :: (ra, tupOf resL) :: tl))) :
    wpAny (model PySem.Challenge.rw_qd0072_01.row.prog w) (lrA dp un gd sc L outer) (exec (bd.getD 8 default) (lrE sc L)) (P8 g base A₀ outer w p loose mean mg mb L o n da P dueL resL o1 o2 o3 o4 o5) E (SH o h k) := by
  have he : FnEnv (lrE sc L) L := ⟨_, _, _, _, _, rfl, by rw [← e1]; rfl⟩
  refine' with_lit (w := w) (f := 783) ?ho ?kk
  case ho => k_is
  case' kk => intro f1 f2
  obtain rfl := e1.symm.trans f1
  obtain rfl := e2.symm.trans f2
  clear f1 f2 e1 e2
  dsimp only [List.getD, List.getElem?_cons_succ, List.getElem?_cons_zero, Option.getD_some]
  dsimp only [kstB, cells5] at F N
  have hMk : KstMark := kstMark
  have hCg := hC.keeps B.stays
  k_steps
  refine Halt.go ?_
  refine' kla_eval ?d0 ?_
  case d0 => exact rfl
  refine' kla_nest F N T hCg ?cd ?U ?t ?n ?cl ?_
  case cd => exact rfl
  case U => k_updF
  case t => exact ht
  case n => exact hca
  case cl => exact rfl
  intro f9 c9 oc9 vs9 tt9 ctv9 h9 tk9 F9 N9 hd9 hv9 l1 l2
  k_steps
  refine Halt.go ?_
  refine' callRan (ι := Addr × Tok) (ι' := PLift (2000 < n + 1)) (P := fun _ => n + 1 ≤ 2000) (val := fun i => .ref i.1) (more := fun i => [(i.1, tupOf (resL ++ [.int 8 i.2]))]) F9 N9 ?hm ?H B X T XB TB D rfl ?hd ?hu ?ret
  case hm => k_mem
  case hd => omega
  case hu => omega
  case H =>
    clear F9 N9 F N B X T XB TB D he hCg hdp hun l1 l2
    refine' CtB.ofLam ?ho ?hc hd9 hv9 ?hb ?h1 ?h2 ?h3 ?h4 ?bd
    case ho => k_mem
    case hc => k_mem
    case hb => exact rfl
    case h1 => exact rfl
    case h2 => exact rfl
    case h3 => exact rfl
    case h4 => exact rfl
    case' bd => intro dp un gd outer A₀ base g L' h o k p loose mean mg mb E B F X N T hdp hun he OX
    k_steps
    refine Halt.go ?_
    with_reducible refine' cw_760 ?F ?X mf_760_run ?_ ?he ?hp
    case F => k_asm
    case X => k_asm
    case he => rfl
    case hp => rfl
    k_steps
    refine Halt.go ?_
    rename Fr _ _ _ _ => F9
    rename News _ _ _ _ => N9
    refine push_at (kz := n) (xs := resL) F9 N9 (by k_mem) (by k_mem) (by k_mem) (by k_mem) (by k_mem) (by k_mem) (by k_mem) (by k_mem) (hr.length.trans xs_len) (by omega) B X T rfl (by omega) (by omega) (by k_extra "B out") (by kcj_all) (fun i h8 tk8 hle F8 N8 => ?_)
    k_steps
    exact R1.ret (_, _) hle nofresh F8 N8 rfl (by kcj_all)
  case ret =>
    intro b9 n9 h8 tk8 g8 T8 B8 X8 P8 F8 hc
    rcases hc with ⟨i, hle, N8⟩ | ⟨⟨hlt⟩, N8⟩
    · dsimp only [List.cons_append, List.nil_append] at N8
      k_steps
      exact ⟨rfl, g8, b9, n9, _, [.ref i.1], [(i.1, tupOf (resL ++ [.int 8 i.2]))], T8, B8, X8, P8, Mid.of (by assumption) (by assumption) (by kst_all) (by kcj_all), .inl ⟨hle, _, _, rfl, rfl⟩⟩
    · k_steps
      exact ⟨rfl, g8, b9, n9, _, [], [], T8, B8, X8, P8, Mid.of (by assumption) (by assumption) (by kst_all) (by kcj_all), .inr ⟨hlt.down, rfl, rfl⟩⟩
end
end
theorem offL12b : True := by
  k_with "off L12b" => skip
  trivial
section
theorem regL12c1 : True := by
  k_with "w call ref" => ((fail_if_success k_extra "off L12c"); ((((with_reducible show wpAny _ _ (call (Value.ref 738) _) _ _ _); (refine Halt.out ?_)))))
  k_with "w compareOp NotEq ref ref" => ((fail_if_success k_extra "off L12c"); (((refine Halt.out ?_))))
  trivial
theorem ne_same {prog : Program} {w : World} {A : Around} {E : Value → Shared → Prop} {s : Shared} {x : Int} {t u : Tok} {Q : Value → Shared → Prop} (h : Q (.bool false) s) : wpAny (model prog w) A (compareOp .NotEq (.int x t) (.int x u)) Q E s :=
  (CmpIs.neI (c := ⟨prog, w, A, default, s⟩) (h := s.heap) (r := false) (by simp)).go s.toks Q E h
theorem regL12c2 : True := by
  k_with "w compareOp NotEq int int" => ((fail_if_success k_extra "off L12c"); (((k_here; k_dflt (refine' ne_same ?_; k_whole)))))
  k_with "w getMethod ref" => ((fail_if_success k_extra "off L12c"); (((k_here; (with_reducible show wpAny _ _ (getMethod (Value.ref _) _ _) _ _ _); k_dflt (refine' my_method ?hzF ?hzX ?hzN ?hzx ?hzd ?hzm ?hzg ?_; (case hzF => k_asm); (case hzX => k_asm); (case hzN => k_asm); (case hzx => k_mem); (case hzd => k_mem); (case hzm => with_reducible first | exact mf_760_evaluate | exact mf_760_run); (case hzg => rfl); k_whole); (with_reducible show wpAny _ _ (callWith _ (Value.ref _) [Value.ref _] _ _) _ _ _)))))
  k_with "w callWith ref" => ((fail_if_success k_extra "off L12c"); ((((with_reducible show wpAny _ _ (callWith _ (Value.ref _) [Value.ref _] _ _) _ _ _); refine Halt.out ?_))))
  trivial
noncomputable def PM (g : Heap) (L : Addr) (o : Shared) (ps : List (Str × Value)) (led : Led) (f : Flow) (s' : Shared) : Prop := f = .next ∧ Mid g L o ps led s'
section
variable {w : World} {dp un : Nat} {gd : Option (List Code)} {outer : List Env} {A₀ : Around} {base g g₀ : Heap} {L : Addr} {h : Heap} {o : Shared} {k : Nat} {p : Program} {loose : List Str} {mean : ExcName → Option Value} {mg mb : Str → Option Value} {E : Value → Shared → Prop}
    {sc : Scope} {bd : List Stmt} {o1 o2 o3 o4 o5 : Obj} {tl : Led} {mm : Str → Option Value} {n nf : Nat} {la : Int} {da mx md P fa ra : Addr} {tq tm tc : Tok} {v2 v5 : Option Value} {dueL resL : List Value} {ps : Array Value}
theorem listS6c (e1 : scopeAt w 783 = sc) (e2 : stmtsAt w 783 = bd) (d1 : o1.data = .cell (some (.ref mx))) (d2 : o2.data = .cell v2) (d3 : o3.data = .cell (some (.ref fa))) (d4 : o4.data = .cell (some (.int (n : Int) tc))) (d5 : o5.data = .cell v5) (hn : n ≤ 2000)
    (hdp : dp + 60 ≤ recursionLimit) (hun : un + 600 < cLine + 3) (hd : IntsAre dueL (XS n la)) (hr : IntsAre resL (XS n la))
    (B : Below A₀ base outer g) (X : (Mine.K w.params).In g) (T : Top p loose mean mg mb g)
    (F : Fr g L h (kstB mm [(Str.ofString "due", Value.ref da)])) (N : News g L h (cells5 L o1 o2 o3 o4 o5 ((P, tabObj ps) :: (mx, instObj 760 md) :: (md, mcD w tq 4100 tm) :: (fa, W.listOf #[.ref ra] nf) :: (da, tupOf dueL) :: (ra, tupOf resL) :: tl))) :
    wpAny (model PySem.Challenge.rw_qd0072_01.row.prog w) (lrA dp un gd sc L outer) (exec (bd.getD 6 default) (lrE sc L)) (PM g L o [(Str.ofString "due", Value.ref da)] (cells5 L o1 o2 o3 o4 o5 ((P, tabObj ps) :: (mx, instObj 760 md) :: (md, mcD w tq 4100 tm) :: (fa, W.listOf #[.ref ra] nf) :: (da, tupOf dueL) :: (ra, tupOf resL) :: tl))) E (SH o h k) := by
  have he : FnEnv (lrE sc L) L := ⟨_, _, _, _, _, rfl, by rw [← e1]; rfl⟩
  refine' with_lit (w := w) (f := 783) ?ho ?kk
  case ho => k_is
  case' kk => intro f1 f2
  obtain rfl := e1.symm.trans f1
  obtain rfl := e2.symm.trans f2
  clear f1 f2 e1 e2
  dsimp only [List.getD, List.getElem?_cons_succ, List.getElem?_cons_zero, Option.getD_some, List.drop]
  dsimp only [kstB, cells5] at F N
  have hMk : KstMark := kstMark
  k_steps
  exact ⟨rfl, Mid.of (by assumption) (by assumption) (by kst_all) (by kcj_all)⟩
theorem listS7 (e1 : scopeAt w 783 = sc) (e2 : stmtsAt w 783 = bd) (d1 : o1.data = .cell (some (.ref mx))) (d2 : o2.data = .cell v2) (d3 : o3.data = .cell (some (.ref fa))) (d4 : o4.data = .cell (some (.int (n : Int) tc))) (d5 : o5.data = .cell v5) (hn : n ≤ 2000)
    (hdp : dp + 60 ≤ recursionLimit) (hun : un + 600 < cLine + 3) (hd : IntsAre dueL (XS n la)) (hr : IntsAre resL (XS n la))
    (B : Below A₀ base outer g) (X : (Mine.K w.params).In g) (T : Top p loose mean mg mb g)
    (F : Fr g L h (kstB mm [(Str.ofString "due", Value.ref da)])) (N : News g L h (cells5 L o1 o2 o3 o4 o5 ((P, tabObj ps) :: (mx, instObj 760 md) :: (md, mcD w tq 4100 tm) :: (fa, W.listOf #[.ref ra] nf) :: (da, tupOf dueL) :: (ra, tupOf resL) :: tl))) :
    wpAny (model PySem.Challenge.rw_qd0072_01.row.prog w) (lrA dp un gd sc L outer) (exec (bd.getD 7 default) (lrE sc L)) (PM g L o [(Str.ofString "due", Value.ref da)] (cells5 L o1 o2 o3 o4 o5 ((P, tabObj ps) :: (mx, instObj 760 md) :: (md, mcD w tq 4100 tm) :: (fa, W.listOf #[.ref ra] nf) :: (da, tupOf dueL) :: (ra, tupOf resL) :: tl))) E (SH o h k) := by
  have he : FnEnv (lrE sc L) L := ⟨_, _, _, _, _, rfl, by rw [← e1]; rfl⟩
  refine' with_lit (w := w) (f := 783) ?ho ?kk
  case ho => k_is
  case' kk => intro f1 f2
  obtain rfl := e1.symm.trans f1
  obtain rfl := e2.symm.trans f2
  clear f1 f2 e1 e2
  dsimp only [List.getD, List.getElem?_cons_succ, List.getElem?_cons_zero, Option.getD_some, List.drop]
  dsimp only [kstB, cells5] at F N
  have hMk : KstMark := kstMark
  k_steps
  refine Halt.go ?_
  rename News _ _ _ _ => N9
  refine' ne_one N9 ?a1 ?a2 ?a3 ?a4 hr hd ?a5 ?a6 ?_
  case a1 => k_mem
  case a2 => k_mem
  case a3 => k_mem
  case a4 => k_mem
  case a5 => ktr_units
  case a6 => ktr_units
  k_steps
  refine Halt.go ?_
  with_reducible refine' cw_760 ?F ?X mf_760_evaluate ?_ ?he ?hp
  case F => k_asm
  case X => k_asm
  case he => rfl
  case hp => rfl
  k_steps
  refine Halt.go ?_
  rename Fr _ _ _ _ => F9
  rename News _ _ _ _ => N9
  refine len_at (kz := n) (xs := resL) F9 N9 (by k_mem) (by k_mem) (by k_mem) (by k_mem) (by k_mem) (by k_mem) (by k_mem) (by k_mem) (hr.length.trans xs_len) (by omega) B X T rfl (by omega) (by omega) (fun i h8 tk8 F8 N8 => ?_)
  clear F9 N9
  have N7 := kst_newsOf (l' := cells5 L o1 o2 o3 o4 o5 ((P, tabObj ps) :: (mx, instObj 760 md) :: (md, mcD w tq 4100 tm) :: (fa, W.listOf #[.ref ra] nf) :: (da, tupOf dueL) :: (ra, tupOf resL) :: tl)) N8 (fun q hq => by (repeat' (first | exact hq | refine List.mem_cons_of_mem _ ?_)))
  clear N8
  k_steps
  exact ⟨rfl, Mid.of (by assumption) N7 (by kst_all) (fun q hq => hq)⟩
end
end
theorem offL12c : True := by
  k_with "off L12c" => skip
  trivial
section
theorem regL12d1 : True := by
  k_with "w compareOp Eq ref ref" => ((fail_if_success k_extra "off L12d"); (((refine Halt.out ?_))))
  k_with "w binaryOp Add ref ref" => ((fail_if_success k_extra "off L12d"); (((k_here; (with_reducible show wpAny _ _ (binaryOp Operator.Add (Value.ref _) (Value.ref _)) _ _ _); k_dflt (refine' add_tup ?hzk1 ?hzk2 ?hzk3 ?hzk4 ?hzk5 ?_; (case hzk1 => k_asm); (case hzk2 => k_asm); (case hzk3 => k_mem); (case hzk4 => k_mem); (case hzk5 => omega); k_whole); intro r9 h9 F9 N9))))
  trivial
section
variable {w : World} {dp un : Nat} {gd : Option (List Code)} {outer : List Env} {A₀ : Around} {base g g₀ : Heap} {L : Addr} {h : Heap} {o : Shared} {k : Nat} {p : Program} {loose : List Str} {mean : ExcName → Option Value} {mg mb : Str → Option Value} {E : Value → Shared → Prop}
    {sc : Scope} {bd : List Stmt} {o1 o2 o3 o4 o5 : Obj} {tl : Led} {mm : Str → Option Value} {n nf : Nat} {la : Int} {da mx md P fa ra : Addr} {tq tm tc : Tok} {v2 v5 : Option Value} {dueL resL : List Value} {ps : Array Value}
theorem listS9a {nb : Nat} {b9 qa : Addr} {t8 : Tok} (e1 : scopeAt w 783 = sc) (e2 : stmtsAt w 783 = bd) (d4 : o4.data = .cell (some (.int (n : Int) tc))) (hn : n + 1 ≤ 2000) (hdp : dp + 60 ≤ recursionLimit) (hun : un + 600 < cLine + 3) (hd : IntsAre dueL (XS n la)) (hr : IntsAre resL (XS n la))
    (T0 : KtsTurn (outer.filterMap (·.frame)) g₀ g) (B : Below A₀ base outer g) (X : (Mine.K w.params).In g) (T : Top p loose mean mg mb g)
    (F : Fr g L h (kstB mm [(Str.ofString "due", Value.ref da), (Str.ofString "pushed", Value.ref b9)])) (N : News g L h (cells5 L o1 o2 o3 o4 o5 ((b9, W.listOf #[.ref qa] nb) :: (da, tupOf dueL) :: (P, tabObj ps) :: (qa, tupOf (resL ++ [.int 8 t8])) :: tl))) :
    wpAny (model PySem.Challenge.rw_qd0072_01.row.prog w) (lrA dp un gd sc L outer) (execs (bd.drop 9) (lrE sc L)) (EndedT (LPost P) g₀ (outer.filterMap (·.frame)) L o) E (SH o h k) := by
  have he : FnEnv (lrE sc L) L := ⟨_, _, _, _, _, rfl, by rw [← e1]; rfl⟩
  refine' with_lit (w := w) (f := 783) ?ho ?kk
  case ho => k_is
  case' kk => intro f1 f2
  obtain rfl := e1.symm.trans f1
  obtain rfl := e2.symm.trans f2
  clear f1 f2 e1 e2
  dsimp only [List.getD, List.getElem?_cons_succ, List.getElem?_cons_zero, Option.getD_some, List.drop]
  dsimp only [kstB, cells5] at F N
  have hMk : KstMark := kstMark
  have hdl : dueL.length ≤ 2000 := by have := hd.length.trans xs_len; omega
  k_steps
  refine Halt.go ?_
  rename Fr _ _ _ _ => F9
  rename News _ _ _ _ => N9
  refine' eq_one N9 ?a1 ?a2 ?a3 ?a4 (hr.append (.cons 8 _ .nil)) (hd.append (.cons 8 _ .nil)) ?a5 ?a6 ?_
  case a1 => k_mem
  case a2 => k_mem
  case a3 => k_mem
  case a4 => k_mem
  case a5 => ktr_units
  case a6 => ktr_units
  k_steps
  exact EndedT.ret T0 ⟨rfl, ps, by k_mem⟩ F9 N9
theorem listS9b {nb : Nat} {b9 : Addr} (e1 : scopeAt w 783 = sc) (e2 : stmtsAt w 783 = bd) (d4 : o4.data = .cell (some (.int (n : Int) tc))) (hn : 2000 < n + 1) (hdp : dp + 60 ≤ recursionLimit) (hun : un + 600 < cLine + 3)
    (T0 : KtsTurn (outer.filterMap (·.frame)) g₀ g) (B : Below A₀ base outer g) (X : (Mine.K w.params).In g) (T : Top p loose mean mg mb g)
    (F : Fr g L h (kstB mm [(Str.ofString "due", Value.ref da), (Str.ofString "pushed", Value.ref b9)])) (N : News g L h (cells5 L o1 o2 o3 o4 o5 ((b9, W.listOf #[] nb) :: (da, tupOf dueL) :: (P, tabObj ps) :: tl))) :
    wpAny (model PySem.Challenge.rw_qd0072_01.row.prog w) (lrA dp un gd sc L outer) (execs (bd.drop 9) (lrE sc L)) (EndedT (LPost P) g₀ (outer.filterMap (·.frame)) L o) E (SH o h k) := by
  have he : FnEnv (lrE sc L) L := ⟨_, _, _, _, _, rfl, by rw [← e1]; rfl⟩
  refine' with_lit (w := w) (f := 783) ?ho ?kk
  case ho => k_is
  case' kk => intro f1 f2
  obtain rfl := e1.symm.trans f1
  obtain rfl := e2.symm.trans f2
  clear f1 f2 e1 e2
  dsimp only [List.getD, List.getElem?_cons_succ, List.getElem?_cons_zero, Option.getD_some, List.drop]
  dsimp only [kstB, cells5] at F N
  have hMk : KstMark := kstMark
  k_steps
  refine Halt.go ?_
  rename Fr _ _ _ _ => F9
  rename News _ _ _ _ => N9
  refine' eq_nil N9 ?a1 ?a2 ?a5 ?_
  case a1 => k_mem
  case a2 => k_mem
  case a5 => ktr_units
  k_steps
  exact EndedT.ret T0 ⟨rfl, ps, by k_mem⟩ F9 N9
end
end
theorem offL12d : True := by
  k_with "off L12d" => skip
  trivial
section
theorem bodyIs {w : World} {bd : List Stmt} (e2 : stmtsAt w 783 = bd) :
    bd = bd.headD default :: bd.getD 1 default :: bd.getD 2 default :: bd.getD 3 default :: bd.getD 4 default :: bd.getD 5 default :: bd.drop 6 ∧ bd.drop 6 = bd.getD 6 default :: bd.getD 7 default :: bd.getD 8 default :: bd.drop 9 := by
  refine' with_lit (w := w) (f := 783) ?ho ?kk
  case ho => k_is
  case' kk => intro f1 f2
  obtain rfl := e2.symm.trans f2
  exact ⟨rfl, rfl⟩
theorem fresh_ne {g h : Heap} {L x : Addr} {led tl : Led} {ox : Obj} (N : News g L h led) (hx : (x, ox) ∈ led) (ht : ∀ q ∈ tl, q ∈ led) (hd : ∀ q ∈ tl, q.2.data ≠ ox.data) : Fresh x tl :=
  ⟨fun q hq e => hd q hq (by
    have a := (N _ hx).1
    have b := (N _ (ht q hq)).1
    rw [e] at b
    exact congrArg Obj.data (Option.some.inj (b.symm.trans a)))⟩
noncomputable def IsSq (q : Addr × Obj) : Prop := ∃ v, q.2.data = .seq v
noncomputable def isSq (q : Addr × Obj) : Bool := match q.2.data with | .seq _ => true | _ => false
theorem isSq_iff {q : Addr × Obj} (h : isSq q = true) : IsSq q := by
  unfold isSq at h
  split at h
  · exact ⟨_, by assumption⟩
  · cases h
theorem pairs_sq {word : Str} {n : Nat} {ys vals : List Value} {more : Led} (h : Pairs word n ys vals more) : ∃ c : Led, Pairs word n ys vals c ∧ (∀ q ∈ c, q ∈ more) ∧ ∀ q ∈ c, IsSq q := by
  refine ⟨more.filter isSq, fun i hi => ?_, fun q hq => (List.mem_filter.mp hq).1, fun q hq => isSq_iff (List.mem_filter.mp hq).2⟩
  obtain ⟨q, t, v, h1, h2, h3⟩ := h i hi
  exact ⟨q, t, v, h1, h2, List.mem_filter.mpr ⟨h3, rfl⟩⟩
theorem IsSq.tup {a : Addr} {vs : List Value} : IsSq (a, tupOf vs) := ⟨_, rfl⟩
theorem IsSq.ne {q : Addr × Obj} {d : Data} (h : IsSq q) (hd : ∀ v, Data.seq v ≠ d) : q.2.data ≠ d := by
  obtain ⟨v, e⟩ := h
  rw [e]
  exact hd v
section
variable {w : World} {dp un : Nat} {gd : Option (List Code)} {outer : List Env} {A₀ : Around} {base g : Heap} {L : Addr} {h : Heap} {o : Shared} {k : Nat} {p : Program} {loose : List Str} {mean : ExcName → Option Value} {mg mb : Str → Option Value} {E : Value → Shared → Prop}
    {sc : Scope} {bd : List Stmt} {o1 o2 o3 o4 o5 : Obj} {mm : Str → Option Value} {b : Bool} {pn c : Addr} {sp z : Int} {t1 t2 : Tok} {vs : List Value} {ns : List Int} {n1 n2 : Nat} {v1 v2 v3 v4 v5 : Option Value}
theorem listEnd1 {g₀ : Heap} {n nf : Nat} {la : Int} {da mx md fa ra : Addr} {tq tm tc : Tok} {dueL resL : List Value} {ps : Array Value}
    (e1 : scopeAt w 783 = sc) (e2 : stmtsAt w 783 = bd) (d1 : o1.data = .cell (some (.ref mx))) (d2 : o2.data = .cell v2) (d3 : o3.data = .cell (some (.ref fa))) (d4 : o4.data = .cell (some (.int (n : Int) tc))) (d5 : o5.data = .cell v5) (hn : n ≤ 2000)
    (hd : IntsAre dueL (XS n la)) (hr : IntsAre resL (XS n la)) (ht : TriplesOk ps.toList) (hca : codeAmong ⟨686, 22, 686, 129⟩ ps.toList = none) (hC : CodeHd base 782 780)
    (hdp : dp + 60 ≤ recursionLimit) (hun : un + 600 < cLine + 3) (T0 : KtsTurn (outer.filterMap (·.frame)) g₀ g)
    (B : Below A₀ base outer g) (X : (Mine.K w.params).In g) (T : Top p loose mean mg mb g) (XB : (Mine.K w.params).In base) (TB : Top p loose mean mg mb base) (D : KtsDicts (outer.filterMap (·.frame)) g)
    (F : Fr g L h (kstB mm [(Str.ofString "due", Value.ref da)])) (N : News g L h (cells5 L o1 o2 o3 o4 o5 ((780, tabObj ps) :: (mx, instObj 760 md) :: (md, mcD w tq 4100 tm) :: (fa, W.listOf #[.ref ra] nf) :: (da, tupOf dueL) :: (ra, tupOf resL) :: []))) :
    wpAny (model PySem.Challenge.rw_qd0072_01.row.prog w) (lrA dp un gd sc L outer) (execs (bd.drop 6) (lrE sc L)) (EndedT (LPost 780) g₀ (outer.filterMap (·.frame)) L o) E (SH o h k) := by
  rw [(bodyIs e2).2]
  refine seqC (listS6c e1 e2 d1 d2 d3 d4 d5 hn hdp hun hd hr B X T F N) fun s1 M1 => ?_
  obtain ⟨h1, k1, m1, rfl, F1, N1⟩ := M1.open
  refine seqC (listS7 e1 e2 d1 d2 d3 d4 d5 hn hdp hun hd hr B X T F1 N1) fun s2 M2 => ?_
  obtain ⟨h2, k2, m2, rfl, F2, N2⟩ := M2.open
  refine seqC (listS8 e1 e2 d1 d2 d3 d4 d5 hn hr ht hca (tl := []) ⟨fun _ hq => (List.not_mem_nil hq).elim⟩ hC hdp hun B X T XB TB D F2 N2) fun s3 M3 => ?_
  obtain ⟨g8, b9, n8, ps8, rs8, more8, T8, B8, X8, P8, M8, alt⟩ := M3
  obtain ⟨h3, k3, m3, rfl, F3, N3⟩ := M8.open
  rcases alt with ⟨hle, qa, t8, rfl, rfl⟩ | ⟨hgt, rfl, rfl⟩
  · exact listS9a e1 e2 d4 hle hdp hun hd hr (T0.trans T8) B8 X8 P8 F3 N3
  · exact listS9b e1 e2 d4 hgt hdp hun (T0.trans T8) B8 X8 P8 F3 N3
theorem listAll (e1 : scopeAt w 783 = sc) (e2 : stmtsAt w 783 = bd) (hi : IntsAre vs ns) (h0 : 0 ≤ sp) (h9 : sp ≤ 8) (hl : ns.length ≤ 63) (hz : 0 ≤ z) (hz9 : z < 1000) (hc : @Ne Nat c pn) (hP : @Ne Nat 780 pn)
    (hdp : dp + 60 ≤ recursionLimit) (hun : un + 600 < cLine + 3) (hpL : @LT.lt Nat _ pn L) (hcL : @LT.lt Nat _ c L) (hPL : @LT.lt Nat _ 780 L)
    (d1 : o1.data = .cell v1) (d2 : o2.data = .cell v2) (d3 : o3.data = .cell v3) (d4 : o4.data = .cell v4) (d5 : o5.data = .cell v5) (hC : CodeHd base 782 780)
    (B : Below A₀ base outer g) (X : (Mine.K w.params).In g) (T : Top p loose mean mg mb g) (XB : (Mine.K w.params).In base) (TB : Top p loose mean mg mb base) (D : KtsDicts (outer.filterMap (·.frame)) g)
    (F : Fr g L h (kstB mm [(Str.ofString "pen", Value.ref pn), (Str.ofString "by_code", Value.bool b)])) (N : News g L h (cells5 L o1 o2 o3 o4 o5 ((pn, W.listOf #[.ref c, .int sp t1, .int z t2] n1) :: (c, W.listOf vs.toArray n2) :: (780, tabObj #[]) :: []))) :
    wpAny (model PySem.Challenge.rw_qd0072_01.row.prog w) (lrA dp un gd sc L outer) (execs bd (lrE sc L)) (EndedT (LPost 780) g (outer.filterMap (·.frame)) L o) E (SH o h k) := by
  rw [(bodyIs e2).1]
  refine seqC (listS1 e1 e2 hi h0 h9 hl hz hz9 hc hdp hun hpL hcL (v1 := none) (v2 := none) (v3 := none) (v5 := none) (tl := [(780, tabObj #[])]) (fun q hq => by rw [List.mem_singleton.mp hq]; exact hP) (fun q hq => by rw [List.mem_singleton.mp hq]; exact hPL) d4 B X T F N) fun s1 M1 => ?_
  obtain ⟨n, la, ta, tb, o4, hn, d4, M1⟩ := M1
  obtain ⟨h1, k1, m1, rfl, F1, N1⟩ := M1.open
  refine seqC (listS2 e1 e2 hn d4 (fun q hq => by rw [List.mem_singleton.mp hq]; exact hPL) B X T F1 N1) fun s2 M2 => ?_
  obtain ⟨da, dueL, hd, M2⟩ := M2
  obtain ⟨h2, k2, m2, rfl, F2, N2⟩ := M2.open
  have hn1 : n ≤ 2001 := by omega
  have hdl : dueL.length = n := hd.length.trans xs_len
  refine seqC (listS3 e1 e2 hn d4 d5 (fresh_ne N2 (by k_mem) (fun q hq => by simp only [cells5, List.mem_cons]; exact .inr (.inr (.inr (.inr (.inr (by simpa using hq)))))) (fun q hq => ?f5)) B X T F2 N2) fun s3 M3 => ?_
  case f5 =>
    rw [d5]
    rcases List.mem_cons.mp hq with rfl | hq
    · exact IsSq.tup.ne nofun
    · rw [List.mem_singleton.mp hq]; nofun
  obtain ⟨aa, aheadL, vals, more0, o5, hal, hv, hp0, d5, M3⟩ := M3
  obtain ⟨h3, k3, m3, rfl, F3, N3⟩ := M3.open
  obtain ⟨more, hp, hms, hmq⟩ := pairs_sq hp0
  have N3' : News g L _ (cells5 L o1 o2 o3 o4 o5 ((aa, W.listOf aheadL.toArray 0) :: (780, tabObj #[]) :: (da, tupOf dueL) :: more)) := kst_newsOf N3 fun q hq => by
    simp only [cells5, List.mem_cons, List.mem_append] at hq ⊢
    rcases hq with h | h | h | h | h | h | h | h | h <;> (try have h := hms _ h) <;> (repeat (with_reducible first | assumption | exact Or.inl (by assumption) | refine Or.inr ?_))
  refine seqC (listS4 e1 e2 hn1 hdl (by k_mem) B X T F3 N3') fun s4 M4 => ?_
  obtain ⟨pa, partsL, mort0, np, hpl, hq0, M4⟩ := M4
  obtain ⟨h4, k4, m4, rfl, F4, N4⟩ := M4.open
  obtain ⟨mort, hpq, hns, hnq⟩ := pairs_sq hq0
  have N4' : News g L _ (cells5 L o1 o2 o3 o4 o5 ((aa, W.listOf aheadL.toArray 0) :: (pa, W.listOf partsL.toArray np) :: (780, tabObj #[]) :: (da, tupOf dueL) :: (more ++ mort))) := kst_newsOf N4 fun q hq => by
    simp only [cells5, List.mem_cons, List.mem_append] at hq ⊢
    rcases hq with h | h | h | h | h | h | h | h | h | h | h <;> (try have h := hns _ h) <;> (repeat (with_reducible first | assumption | exact Or.inl (by assumption) | refine Or.inr ?_))
  have hne : ∀ q ∈ ((aa, W.listOf aheadL.toArray 0) :: (pa, W.listOf partsL.toArray np) :: (780, tabObj #[]) :: (da, tupOf dueL) :: (more ++ mort) : Led), ∀ v, q.2.data ≠ .cell v := by
    intro q hq v
    simp only [List.mem_cons, List.mem_append] at hq
    rcases hq with rfl | rfl | rfl | rfl | h | h
    · nofun
    · nofun
    · nofun
    · nofun
    · exact (hmq _ h).ne nofun
    · exact (hnq _ h).ne nofun
  have hin : ∀ q ∈ ((aa, W.listOf aheadL.toArray 0) :: (pa, W.listOf partsL.toArray np) :: (780, tabObj #[]) :: (da, tupOf dueL) :: (more ++ mort) : Led), q ∈ cells5 L o1 o2 o3 o4 o5 ((aa, W.listOf aheadL.toArray 0) :: (pa, W.listOf partsL.toArray np) :: (780, tabObj #[]) :: (da, tupOf dueL) :: (more ++ mort)) := fun q hq => .tail _ (.tail _ (.tail _ (.tail _ (.tail _ hq))))
  refine seqC (listS5 e1 e2 d1 d2 (fresh_ne N4' (by k_mem) hin fun q hq => by rw [d2]; exact hne q hq _) (fresh_ne N4' (by k_mem) hin fun q hq => by rw [d1]; exact hne q hq _) hdp hun B X T F4 N4') fun s5 M5 => ?_
  obtain ⟨mx, md, nd, tq, tm, t0, o1, o2, M5, d1, d2⟩ := M5
  obtain ⟨h5, k5, m5, rfl, F5, N5⟩ := M5.open
  have hsq : ∀ q ∈ ((da, tupOf dueL) :: (more ++ mort) : Led), IsSq q := by
    intro q hq
    simp only [List.mem_cons, List.mem_append] at hq
    rcases hq with rfl | h | h
    · exact .tup
    · exact hmq _ h
    · exact hnq _ h
  have hsn : ∀ q ∈ ((da, tupOf dueL) :: (more ++ mort) : Led), q ∈ (cells5 L o1 o2 o3 o4 o5 ((mx, instObj 760 md) :: (md, mcD w tq 4100 tm) :: (nd, tupOf [.str (Str.ofString "list") t0, .ref pa]) :: (aa, W.listOf aheadL.toArray 0) :: (pa, W.listOf partsL.toArray np) :: (780, tabObj #[]) :: (da, tupOf dueL) :: (more ++ mort))) :=
    fun q hq => .tail _ (.tail _ (.tail _ (.tail _ (.tail _ (.tail _ (.tail _ (.tail _ (.tail _ (.tail _ (.tail _ hq))))))))))
  have fP : Fresh 780 ((da, tupOf dueL) :: (more ++ mort)) := fresh_ne N5 (ox := tabObj #[]) (by k_mem) hsn fun q hq => (hsq q hq).ne nofun
  have f3 : Fresh (L + 1 + 1 + 1) ((da, tupOf dueL) :: (more ++ mort)) := fresh_ne N5 (ox := o3) (by k_mem) hsn fun q hq => (hsq q hq).ne (by rw [d3]; nofun)
  have step6 : wpAny (model PySem.Challenge.rw_qd0072_01.row.prog w) (lrA dp un gd sc L outer) (exec (bd.getD 5 default) (lrE sc L)) (P6 w g base A₀ outer p loose mean mg mb L o n la da mx md 780 tq tm dueL o1 o4) E (SH o h5 k5) := by
    cases b
    · refine listS6b (pa := pa) (np := np) (t0 := t0) e1 e2 d1 d2 d3 d4 d5 hn1 hpl hd (pairs_sub hpq fun q hq => List.mem_cons_of_mem _ (List.mem_append_right _ hq)) (.head _) fP f3 hC hdp hun B X T XB TB D F5 (kst_newsOf N5 fun q hq => ?_)
      simp only [cells5, List.mem_cons, List.mem_append] at hq ⊢
      rcases hq with h | h | h | h | h | h | h | h | h | h | h | h | h <;> (repeat (with_reducible first | assumption | exact Or.inl (by assumption) | refine Or.inr ?_))
    · refine listS6a e1 e2 d1 d2 d3 d4 d5 hn1 hal hv (pairs_sub hp fun q hq => List.mem_cons_of_mem _ (List.mem_append_left _ hq)) (.head _) fP f3 hC hdp hun B X T XB TB D F5 (kst_newsOf N5 fun q hq => ?_)
      simp only [cells5, List.mem_cons, List.mem_append] at hq ⊢
      rcases hq with h | h | h | h | h | h | h | h | h | h | h | h <;> (repeat (with_reducible first | assumption | exact Or.inl (by assumption) | refine Or.inr ?_))
  refine seqC step6 fun s6 M6 => ?_
  obtain ⟨g6, fa, nf, ps, o2, o3, o5, rs, more6, T6, B6, X6, P6, M6, ⟨v8, d2⟩, ⟨v9, d5⟩, d3, ht, hca, alt⟩ := M6
  obtain ⟨h6, k6, m6, rfl, F6, N6⟩ := M6.open
  rcases alt with ⟨hle, ra, resL, rfl, hra, hr⟩ | ⟨hgt, rfl⟩
  · refine listEnd1 (tq := tq) (tm := tm) (md := md) (nf := nf) (ra := ra) e1 e2 d1 d2 d3 d4 d5 hle hd hr ht hca hC hdp hun T6 B6 X6 P6 XB TB (D.turn T6) F6 (kst_newsOf N6 fun q hq => ?_)
    simp only [cells5, List.mem_cons, List.not_mem_nil, or_false] at hq ⊢
    rcases hq with h | h | h | h | h | h | h | h | h | h | h <;> (try have h : q ∈ more6 := h ▸ hra) <;> (repeat (with_reducible first | assumption | exact Or.inl (by assumption) | refine Or.inr ?_))
  · refine listEnd0 (ps := ps) (nf := nf) (o1 := o1) (o2 := o2) (o5 := o5) e1 e2 d3 d4 hgt hdp hun T6 B6 X6 P6 F6 (tl := []) (kst_newsOf N6 fun q hq => ?_)
    simp only [cells5, List.mem_cons, List.not_mem_nil, or_false] at hq ⊢
    rcases hq with h | h | h | h | h | h | h <;> (repeat (with_reducible first | assumption | exact Or.inl (by assumption) | refine Or.inr ?_))
end
theorem Fr.kst {g h : Heap} {L : Addr} {m : Str → Option Value} {ps : List (Str × Value)} (F : Fr g L h m) (hp : ∀ q ∈ ps, m q.1 = some q.2) : Fr g L h (kstB m ps) := by
  rw [show kstB m ps = m from funext fun y => kstB_eq hp fun _ => rfl]
  exact F
theorem list_right_t {w : World} {pn c : Addr} {sp z : Int} {t1 t2 : Tok} {vs : List Value} {ns : List Int} {n1 n2 : Nat} {b : Bool}
    (hi : IntsAre vs ns) (h0 : 0 ≤ sp) (h9 : sp ≤ 8) (hl : ns.length ≤ 63) (hz : 0 ≤ z) (hz9 : z < 1000) (hc : @Ne Nat c pn) (hP : @Ne Nat 780 pn) :
    CtT w 783 [.ref pn, .bool b] 60 600 ((pn, W.listOf #[.ref c, .int sp t1, .int z t2] n1) :: (c, W.listOf vs.toArray n2) :: (780, tabObj #[]) :: []) (LPost 780) := by
  refine' CtT.ofC [(Str.ofString "pen", .ref pn), (Str.ofString "by_code", .bool b)] ?ho ?hcd ?hb ?hl ?hnd ?hco ?hg ?hk ?bd
  case ho => k_is
  case hcd => k_is
  case hb => exact fun s9 X9 => by first | exact BindsTo.of_eq rfl | exact binds_K X9 rfl (by k_is) rfl rfl rfl
  case hl => rfl
  case hnd => decide +kernel
  case hco => rfl
  case hg => rfl
  case hk => rfl
  case' bd => (intro dp un gd outer A₀ base g L cells h o k p loose mean mg mb E B F X N Y T XB TB D hdp hun he hE l1; k_fold; have hEO := envOkC he (by kernel_rfl); have l1 := allLt_of l1; dsimp only [AllLt] at l1; k_cells Y; simp only [List.cons_append, List.nil_append] at N; have hMk : KstMark := kstMark)
  refine' with_lit (w := w) (f := 783) ?ho9 ?kk9
  case ho9 => k_is
  case' kk9 => intro f1 f2
  have F2 := Fr.kst (ps := [(Str.ofString "pen", Value.ref pn), (Str.ofString "by_code", Value.bool b)]) F (by kst_all)
  refine' @listAll _ _ _ _ _ _ _ _ _ _ _ _ _ _ _ _ _ _ _ _ _ _ _ _ _ _ _ _ _ _ _ _ _ _ _ _ _ _ _ _ _ _ f1 f2 hi h0 h9 hl hz hz9 hc hP hdp hun ?a1 ?a2 ?a3 ?d1 ?d2 ?d3 ?d4 ?d5 ?hC B X T XB TB D F2 N
  case a1 => exact l1.1
  case a2 => exact l1.2.1
  case a3 => exact l1.2.2.1
  case d1 => assumption
  case d2 => assumption
  case d3 => assumption
  case d4 => assumption
  case d5 => assumption
  case hC => exact codeHd_of_K XB (by kernel_rfl)
end
section
theorem nameGoesT {M : Model} {A : Around} {E : Value → Shared → Prop} {env : Env} {n : Str} {pos : Pos} {Post : Value → Led → Prop} {g₀ : Heap} {fs : List Addr} {L : Addr} {o s : Shared} {fl : Flow}
    (hl : env.kindOf n = some .local) (heL : env.locals = L) (hp : (env.scope.kind == .class || (env.scope.kind == .module && env.locals != env.globals)) = false) (h : EndedT Post g₀ fs L o fl s) :
    wpAny M A (do bindName env n .none; unbindBehindTheSuite env n pos) (fun _ s' => EndedT Post g₀ fs L o fl s') E s := by
  subst heL
  obtain ⟨g', h', k', m', news', rfl, T, hq, F, N⟩ := h
  exact wpAny_nameGoes hl F.ns hp fun h2 m2 hn hs => ⟨g', h2, k' + 1, m2, news', rfl, T, hq, F.set hn hs, N.set hs⟩
noncomputable def RetT (Post : Value → Led → Prop) (g : Heap) (fs : List Addr) (L : Addr) (o : Shared) (fl : Flow) (s' : Shared) : Prop := ∃ v, fl = .ret v ∧ EndedT Post g fs L o (.ret v) s'
/-- what `except X as n:` does with an own exception of that very class -/
theorem caughtXas {prog : Program} {w : World} {A A₀ : Around} {E : Value → Shared → Prop} {base g g₀ h : Heap} {o : Shared} {kk : Nat} {outer : List Env} {L a e C D : Addr} {m : Str → Option Value} {name : Str} {scope : Scope} {cd : Value} {cl : List (Str × Addr)}
    {b₀ : Stmt} {suite : List Stmt} {pos np : Pos} {rest : List ExceptHandler} {news : Led} {KF : Frag} {p : Program} {loose : List Str} {mean : ExcName → Option Value} {mg mb : Str → Option Value} {x n : Str} {Q : Flow → Shared → Prop} {Post : Value → Led → Prop}
    (fl : Flew base g L m (envX name scope L a cd cl :: outer) e C D news h) (hA : A.frames = some (envX name scope L a cd cl :: outer)) (K : Below A₀ base outer g) (XB : KF.In base) (TB : Top p loose mean mg mb base) (Dc : KtsDicts (outer.filterMap (·.frame)) g)
    (ex : nsIn KF mainGlobals x = some (some (.ref C))) (q : ktsIn KF C "BaseException" = true) (hk : scope.kind = .function) (hx : (envX name scope L a cd cl).kindOf x = some .globalImplicit) (hd : (x == ("__debug__" : Str)) = false)
    (hn : (envX name scope L a cd cl).kindOf n = some .local)
    (hQ : ∀ v s, EndedT Post g₀ (outer.filterMap (·.frame)) L o (.ret v) s → Q (.ret v) s)
    (k : ∀ h' g' oe k', KtsTurn (outer.filterMap (·.frame)) g g' → Fr g' L h' (fun y => if y = n then some (.ref e) else m y) → News g' L h' ((e, oe) :: news) → oe.cls = .ref C → oe.dict = some D → (∃ vs, oe.data = .fields vs) → Below A₀ base outer g' → KF.In g' → Top p loose mean mg mb g' → KtsDicts (outer.filterMap (·.frame)) g' →
      wpAny (model prog w) (A.mark (some (.ref e))) (execs (b₀ :: suite) (envX name scope L a cd cl)) (RetT Post g₀ (outer.filterMap (·.frame)) L o) (fun _ _ => False) (SH o h' k')) :
    wpAny (model prog w) A (noteFrame (.ref e) (envX name scope L a cd cl))
      (fun _ s₂ => wpAny (model prog w) A (setFlight (.ref e) none) (fun _ s₃ =>
        wpAny (model prog w) A (handleBy (.ref e) (envX name scope L a cd cl) (.ExceptHandler (some (.Name x np)) (some n) (b₀ :: suite) pos :: rest)) Q E s₃) E s₂) E (SH o h kk) := by
  obtain ⟨G, F, ⟨B, hB, hBG, hl, hfl⟩, hsm⟩ := fl
  have hL : B.get? L = none := by
    obtain ⟨_, ⟨L', _, hf, hn', _⟩, _⟩ := hfl.2.2.1
    obtain rfl : L = L' := Option.some.inj hf
    exact hn'
  refine lookD hA rfl hfl fun h₄ x₄ u₄ => ?_
  refine landD x₄ fun h₅ x₅ u₅ => ?_
  have hsm₅ := hsm.trans (u₄.trans u₅)
  obtain ⟨g₅, T₅, F₅, K₅⟩ := kts_ground (name := name) (scope := scope) (a := a) (cd := cd) K F hBG x₅.1 hsm₅
  have X₅ : KF.In g₅ := XB.keeps K₅.stays
  have P₅ : TopRead p loose mg mb g₅ := topRead_of (TB.keeps K₅.stays)
  obtain ⟨ob, hob, hobc, -⟩ := x₅.there
  obtain ⟨nm, q', N, bs, bm, hdct, sn, sub, ab, col, dd, k0, k1, k2, k3, k5, newId, hC, hbase, hbT⟩ := kts_cls X₅ q
  have hC₅ := F₅.keep _ _ hC
  refine wpAny_handleBy_cons (codeAny_handlers_test (nameX_K F₅ X₅ P₅ ex ?_ hk hx hd)) (by intro q; cases q)
  refine wpAny_excMatches_sub_self hC₅ hob hobc hbase (codeAny_handlers_suite_as ?_)
  refine landD x₅ fun h₆ x₆ u₆ => ?_
  obtain ⟨g₆, T₆, F₆, K₆⟩ := kts_ground (name := name) (scope := scope) (a := a) (cd := cd) K F hBG x₆.1 (hsm₅.trans u₆)
  obtain ⟨oe, he, hc, hd', vs, hvs⟩ := x₆.there
  have ne₆ : g₆.get? e = none := T₆.none_ _ (kts_fresh (name := name) (scope := scope) (a := a) (cd := cd) F hBG x₆.2.1 fun o ho m => by
    obtain ⟨_, o', ho', hd⟩ := K.frames.mem m
    rw [ho] at ho'
    cases ho'
    obtain ⟨sl, hs⟩ := (hsm₅.trans u₆) _ _ (F.keep _ _ ho) hd
    rw [he] at hs
    cases hs
    exact hd _ hvs)
  have N₆ : News g₆ L h₆ [(e, oe)] := News.more F₆ News.nil he (fun es n q => by rw [hvs] at q; cases q) ne₆
  have Nl : News g₆ L h₆ news := fun q hq => ⟨x₆.1 _ _ (hl q hq).1, (fun z => by have := (hl q hq).1; rw [z, hL] at this; cases this), T₆.none_ _ (kts_none F.keep (hl q hq).2.1)⟩
  have N7 : News g₆ L h₆ ((e, oe) :: news) := fun q hq => (List.mem_cons.mp hq).elim (fun z => N₆ q (z ▸ .head _)) (Nl q)
  have hpk : ((envX name scope L a cd cl).scope.kind == .class || ((envX name scope L a cd cl).scope.kind == .module && (envX name scope L a cd cl).locals != (envX name scope L a cd cl).globals)) = false := by
    show (scope.kind == .class || (scope.kind == .module && L != mainGlobals)) = false
    rw [hk]; rfl
  refine wpAny_storeName_local hn F₆.ns (fun h₇ hn₇ hs₇ => ?_) hpk
  refine wpAny_mono (k h₇ g₆ oe (kk + 1) T₆ (F₆.set hn₇ hs₇) (N7.set hs₇) hc hd' ⟨vs, hvs⟩ K₆ (XB.keeps K₆.stays) (TB.keeps K₆.stays) (Dc.turn T₆)) (fun f s' q => ?_) fun _ _ x => x.elim
  obtain ⟨v, rfl, q⟩ := q
  exact wpAny_mono (nameGoesT hn rfl hpk q) (fun _ s5 q5 => hQ _ _ q5) fun _ _ x => x
end
theorem rows2 : True := by
  k_with "mac ktr_rel" => (first
  | (refine' Ev.chr ?hzeL ?hzeR ?hzeC ?hzeZ ?hzeS; (case hzeL => k_extra "mac ktr_rel"); (case hzeR => k_extra "mac ktr_rel"); (case hzeC => assumption); (case hzeZ => assumption); (case hzeS => (intro _ _; with_unfolding_all rfl)))
  | (refine' Ev.lenS ?hzeF ?hzeE ?hzeX ?hzeT ?hzeH ?hzex ?hzeZ ?hzeC ?hzeS ?hzeP; (case hzeF => k_asm); (case hzeE => assumption); (case hzeX => k_asm); (case hzeT => k_asm); (case hzeH => k_extra "mac ktr_rel"); (case hzex => exact rfl); (case hzeZ => assumption); (case hzeC => exact rfl); (case hzeS => exact rfl); (case hzeP => exact rfl)))
  k_with "mac ktr_unf" => (first | (refine' CmpIs.inS ?hzeC; (case hzeC => assumption)) | (refine' CmpIs.ninS ?hzeC; (case hzeC => assumption)))
  k_with "w eval Subscript" => ((k_here; k_dflt (refine' @Ev.use _ _ _ _ _ _ _ _ _ _ _ _ ?hzevH ?_; (case hzevH => k_extra "mac ktr_rel"); k_whole)))
  k_with "w compareOp In str str" => ((k_here; (with_reducible show wpAny _ _ (compareOp CmpOp.In (Value.str _ _) (Value.str _ _)) _ _ _); k_dflt (first | (refine' @in_T _ _ _ _ _ _ _ _ _ _ ?hzk1 ?_; (case hzk1 => first | assumption | kernel_rfl!); k_whole) | (refine' @in_F _ _ _ _ _ _ _ _ _ _ ?hzk1 ?_; (case hzk1 => first | assumption | kernel_rfl!); k_whole))))
  k_with "w call builtin:len" => ((k_here; (with_reducible show wpAny _ _ (call (Value.builtin "len") [Value.ref _]) _ _ _); k_dflt (refine' kst_len ?hzk1 ?hzk2 ?hzk3 ?hzk4 ?_; (case hzk1 => k_asm); (case hzk2 => k_mem); (case hzk3 => assumption); (case hzk4 => omega); k_whole)))
  trivial
section
theorem isDoneF {w : World} {cx cd : Addr} {k1 k2 t ta : Tok} {x : Str} {a : Int} {news : Led} (hlt : a < x.length) (hz : x.length ≤ 5000) (h1 : (cx, instObj 234 cd) ∈ news) (h2 : (cd, curD w k1 k2 x t a ta) ∈ news) :
    Ct w 131 [.ref cx] 2 20 news (R1 (ι := Unit) (fun _ => True) (fun _ => []) (fun _ => .bool false) news (fun _ => [] ++ news)) := by
  refine' Ct.of [(Str.ofString "self", .ref cx)] ?ho ?hcd ?hb ?hl ?hco ?hg ?hk ?hc ?bd
  case ho => k_is
  case hcd => k_is
  case hb => exact fun s9 X9 => by first | exact BindsTo.of_eq rfl | exact binds_K X9 rfl (by k_is) rfl rfl rfl
  case hl => exact locs rfl
  case hco => rfl
  case hg => rfl
  case hk => rfl
  case hc => rfl
  case' bd => (intro dp un gd outer A₀ base g L h o k p loose mean mg mb E B F X N T hdp hun he hE; k_fold; have hEO := envOk he (by kernel_rfl); (try have hBO := bindsOk F (by kernel_rfl)); have hMk : KstMark := kstMark)
  k_steps
  exact R1.ret' () trivial nofresh (by assumption) (by assumption) (congrArg Value.bool (decide_eq_false (by omega)))
theorem isDoneT {w : World} {cx cd : Addr} {k1 k2 t ta : Tok} {x : Str} {a : Int} {news : Led} (hlt : (x.length : Int) ≤ a) (hz : x.length ≤ 5000) (h1 : (cx, instObj 234 cd) ∈ news) (h2 : (cd, curD w k1 k2 x t a ta) ∈ news) :
    Ct w 131 [.ref cx] 2 20 news (R1 (ι := Unit) (fun _ => True) (fun _ => []) (fun _ => .bool true) news (fun _ => [] ++ news)) := by
  refine' Ct.of [(Str.ofString "self", .ref cx)] ?ho ?hcd ?hb ?hl ?hco ?hg ?hk ?hc ?bd
  case ho => k_is
  case hcd => k_is
  case hb => exact fun s9 X9 => by first | exact BindsTo.of_eq rfl | exact binds_K X9 rfl (by k_is) rfl rfl rfl
  case hl => exact locs rfl
  case hco => rfl
  case hg => rfl
  case hk => rfl
  case hc => rfl
  case' bd => (intro dp un gd outer A₀ base g L h o k p loose mean mg mb E B F X N T hdp hun he hE; k_fold; have hEO := envOk he (by kernel_rfl); (try have hBO := bindsOk F (by kernel_rfl)); have hMk : KstMark := kstMark)
  k_steps
  exact R1.ret' () trivial nofresh (by assumption) (by assumption) (congrArg Value.bool (decide_eq_true hlt))
theorem peek_d {w : World} {cx cd : Addr} {k1 k2 t ta tb : Tok} {x : Str} {a b : Int} {c : Nat} {news : Led} (hc : AtC x (a + b) c) (hz : x.length ≤ 5000) (h1 : (cx, instObj 234 cd) ∈ news) (h2 : (cd, curD w k1 k2 x t a ta) ∈ news) :
    Ct w 139 [.ref cx, .int b tb] 2 20 news (R1 (ι := Tok) (fun _ => True) (fun _ => []) (fun i => .str ⟨#[c]⟩ i) news (fun _ => [] ++ news)) := by
  have e1 := hc.lo
  have e2 := hc.hi
  refine' Ct.of [(Str.ofString "self", .ref cx), (Str.ofString "ahead", .int b tb)] ?ho ?hcd ?hb ?hl ?hco ?hg ?hk ?hc ?bd
  case ho => k_is
  case hcd => k_is
  case hb => exact fun s9 X9 => by first | exact BindsTo.of_eq rfl | exact binds_K X9 rfl (by k_is) rfl rfl rfl
  case hl => exact locs rfl
  case hco => rfl
  case hg => rfl
  case hk => rfl
  case hc => rfl
  case' bd => (intro dp un gd outer A₀ base g L h o k p loose mean mg mb E B F X N T hdp hun he hE; k_fold; have hEO := envOk he (by kernel_rfl); (try have hBO := bindsOk F (by kernel_rfl)); have hMk : KstMark := kstMark)
  k_steps
  exact R1.ret' _ trivial nofresh (by assumption) (by assumption) rfl
theorem peek0_d {w : World} {cx cd : Addr} {k1 k2 t ta : Tok} {x : Str} {a : Int} {c : Nat} {news : Led} (hc : AtC x a c) (hz : x.length ≤ 5000) (h1 : (cx, instObj 234 cd) ∈ news) (h2 : (cd, curD w k1 k2 x t a ta) ∈ news) :
    Ct w 139 [.ref cx] 2 20 news (R1 (ι := Tok) (fun _ => True) (fun _ => []) (fun i => .str ⟨#[c]⟩ i) news (fun _ => [] ++ news)) := by
  have e1 := hc.lo
  have e2 := hc.hi
  have hc' : AtC x (a + 0) c := (Int.add_zero a).symm ▸ hc
  refine' Ct.of [(Str.ofString "self", .ref cx), (Str.ofString "ahead", .int 0 387)] ?ho ?hcd ?hb ?hl ?hco ?hg ?hk ?hc ?bd
  case ho => k_is
  case hcd => k_is
  case hb => exact fun s9 X9 => by first | exact BindsTo.of_eq rfl | exact binds_K X9 rfl (by k_is) rfl rfl rfl
  case hl => exact locs rfl
  case hco => rfl
  case hg => rfl
  case hk => rfl
  case hc => rfl
  case' bd => (intro dp un gd outer A₀ base g L h o k p loose mean mg mb E B F X N T hdp hun he hE; k_fold; have hEO := envOk he (by kernel_rfl); (try have hBO := bindsOk F (by kernel_rfl)); have hMk : KstMark := kstMark)
  k_steps
  exact R1.ret' _ trivial nofresh (by assumption) (by assumption) rfl
theorem starts_d {w : World} {cx cd : Addr} {k1 k2 t ta tb : Tok} {x y : Str} {a : Int} {news : Led} {b : Bool} (hb : (Txt.slice x (some a) (some (a + (y.length : Int))) == y) = b) (hy : y.length ≤ 5) (hz : x.length ≤ 5000) (h0 : 0 ≤ a) (h1 : (cx, instObj 234 cd) ∈ news) (h2 : (cd, curD w k1 k2 x t a ta) ∈ news) :
    Ct w 146 [.ref cx, .str y tb] 2 20 news (R1 (ι := Unit) (fun _ => True) (fun _ => []) (fun i => .bool b) news (fun _ => [] ++ news)) := by
  refine' Ct.of [(Str.ofString "self", .ref cx), (Str.ofString "word", .str y tb)] ?ho ?hcd ?hb ?hl ?hco ?hg ?hk ?hc ?bd
  case ho => k_is
  case hcd => k_is
  case hb => exact fun s9 X9 => by first | exact BindsTo.of_eq rfl | exact binds_K X9 rfl (by k_is) rfl rfl rfl
  case hl => exact locs rfl
  case hco => rfl
  case hg => rfl
  case hk => rfl
  case hc => rfl
  case' bd => (intro dp un gd outer A₀ base g L h o k p loose mean mg mb E B F X N T hdp hun he hE; k_fold; have hEO := envOk he (by kernel_rfl); (try have hBO := bindsOk F (by kernel_rfl)); have hMk : KstMark := kstMark)
  k_steps
  exact R1.ret' () trivial nofresh (by assumption) (by assumption) (congrArg Value.bool hb)
theorem regC11 : True := by
  k_with "w call ref" => ((fail_if_success k_extra "off C1"); (((k_here; (with_reducible show wpAny _ _ (call (Value.ref 131) _) _ _ _); k_dflt (refine' call0 (isDoneF ?hzs0 ?hzs1 ?hzs2 ?hzs3) ?hzkB ?hzkF ?hzkX ?hzkN ?hzkT ?hzkk ?hzkd ?hzku ?_; k_extra "D com"; (case hzs3 => k_extra "D side"); (case hzs2 => k_extra "D side"); (case hzs1 => k_extra "D side"); (case hzs0 => k_extra "D side")); k_extra "D fin"))))
  trivial
theorem take_d {w : World} {cx cd : Addr} {k1 k2 t ta : Tok} {x : Str} {a : Int} {c : Nat} (hz : x.length ≤ 5000) (hc : AtC x a c) (rest : Led) (hr : ∀ p ∈ rest, p.1 ≠ cd) :
    Ct w 153 [.ref cx] 4 40 ((cd, curD w k1 k2 x t a ta) :: ([(cx, instObj 234 cd)] ++ rest))
      (R1 (ι := Tok × Tok) (fun _ => True) (fun _ => []) (fun i => .str ⟨#[c]⟩ i.1) ((cd, curD w k1 k2 x t a ta) :: ([(cx, instObj 234 cd)] ++ rest)) (fun i => [] ++ (cd, curD w k1 k2 x t (a + 1) i.2) :: ([(cx, instObj 234 cd)] ++ rest))) := by
  dsimp only [List.cons_append, List.nil_append]
  have e1 := hc.lo
  have e2 := hc.hi
  refine' Ct.of [(Str.ofString "self", .ref cx)] ?ho ?hcd ?hb ?hl ?hco ?hg ?hk ?hc ?bd
  case ho => k_is
  case hcd => k_is
  case hb => exact fun s9 X9 => by first | exact BindsTo.of_eq rfl | exact binds_K X9 rfl (by k_is) rfl rfl rfl
  case hl => exact locs rfl
  case hco => rfl
  case hg => rfl
  case hk => rfl
  case hc => rfl
  case' bd => (intro dp un gd outer A₀ base g L h o k p loose mean mg mb E B F X N T hdp hun he hE; k_fold; have hEO := envOk he (by kernel_rfl); (try have hBO := bindsOk F (by kernel_rfl)); have hMk : KstMark := kstMark)
  k_steps
  exact R1.ret' (_, _) trivial nofresh (by assumption) (by assumption) rfl
theorem regC12 : True := by
  k_with "w call ref" => ((fail_if_success k_extra "off C1"); (((k_here; (with_reducible show wpAny _ _ (call (Value.ref 146) _) _ _ _); k_dflt (refine' call0 (starts_d ?hzs0 ?hzs1 ?hzs2 ?hzs3 ?hzs4 ?hzs5) ?hzkB ?hzkF ?hzkX ?hzkN ?hzkT ?hzkk ?hzkd ?hzku ?_; k_extra "D com"; (case hzs5 => k_extra "D side"); (case hzs4 => k_extra "D side"); (case hzs3 => k_extra "D side"); (case hzs2 => k_extra "D side"); (case hzs1 => k_extra "D side"); (case hzs0 => k_extra "D side")); k_extra "D fin"))))
  trivial
theorem skipT {w : World} {cx cd : Addr} {k1 k2 t ta tb : Tok} {x y : Str} {a : Int} {c : Nat} (hz : x.length ≤ 5000) (hy : y = ⟨#[c]⟩) (hc : AtC x a c) (rest : Led) (hr : ∀ p ∈ rest, p.1 ≠ cd) :
    Ct w 160 [.ref cx, .str y tb] 4 40 ((cd, curD w k1 k2 x t a ta) :: ([(cx, instObj 234 cd)] ++ rest))
      (R1 (ι := Tok) (fun _ => True) (fun _ => []) (fun i => .bool true) ((cd, curD w k1 k2 x t a ta) :: ([(cx, instObj 234 cd)] ++ rest)) (fun i => [] ++ (cd, curD w k1 k2 x t (a + 1) i) :: ([(cx, instObj 234 cd)] ++ rest))) := by
  dsimp only [List.cons_append, List.nil_append]
  have e1 := hc.lo
  have hb : (Txt.slice x (some a) (some (a + (y.length : Int))) == y) = true := (starts1 hc hy).trans (by simp)
  have hl : y.length ≤ 5 := by subst hy; exact (by decide : 1 ≤ 5)
  have e9 : a + (y.length : Int) = a + 1 := by subst hy; rfl
  refine' Ct.of [(Str.ofString "self", .ref cx), (Str.ofString "word", .str y tb)] ?ho ?hcd ?hb ?hl ?hco ?hg ?hk ?hc ?bd
  case ho => k_is
  case hcd => k_is
  case hb => exact fun s9 X9 => by first | exact BindsTo.of_eq rfl | exact binds_K X9 rfl (by k_is) rfl rfl rfl
  case hl => exact locs rfl
  case hco => rfl
  case hg => rfl
  case hk => rfl
  case hc => rfl
  case' bd => (intro dp un gd outer A₀ base g L h o k p loose mean mg mb E B F X N T hdp hun he hE; k_fold; have hEO := envOk he (by kernel_rfl); (try have hBO := bindsOk F (by kernel_rfl)); have hMk : KstMark := kstMark)
  k_steps
  rename News _ _ _ _ => NN
  rw [e9] at NN
  exact R1.ret' _ trivial nofresh (by assumption) NN rfl
theorem skipF {w : World} {cx cd : Addr} {k1 k2 t ta tb : Tok} {x y : Str} {a : Int} {news : Led} (hb : (Txt.slice x (some a) (some (a + (y.length : Int))) == y) = false) (hl : y.length ≤ 5) (hz : x.length ≤ 5000) (h0 : 0 ≤ a) (h1 : (cx, instObj 234 cd) ∈ news) (h2 : (cd, curD w k1 k2 x t a ta) ∈ news) :
    Ct w 160 [.ref cx, .str y tb] 4 40 news (R1 (ι := Unit) (fun _ => True) (fun _ => []) (fun i => .bool false) news (fun _ => [] ++ news)) := by
  refine' Ct.of [(Str.ofString "self", .ref cx), (Str.ofString "word", .str y tb)] ?ho ?hcd ?hb ?hl ?hco ?hg ?hk ?hc ?bd
  case ho => k_is
  case hcd => k_is
  case hb => exact fun s9 X9 => by first | exact BindsTo.of_eq rfl | exact binds_K X9 rfl (by k_is) rfl rfl rfl
  case hl => exact locs rfl
  case hco => rfl
  case hg => rfl
  case hk => rfl
  case hc => rfl
  case' bd => (intro dp un gd outer A₀ base g L h o k p loose mean mg mb E B F X N T hdp hun he hE; k_fold; have hEO := envOk he (by kernel_rfl); (try have hBO := bindsOk F (by kernel_rfl)); have hMk : KstMark := kstMark)
  k_steps
  exact R1.ret' () trivial nofresh (by assumption) (by assumption) rfl
end
theorem offC1 : True := by
  k_with "off C1" => skip
  trivial
section
theorem regC21 : True := by
  k_with "w exec While BoolOp cons nil" => ((fail_if_success k_extra "off C2"); (((refine Halt.out ?_))))
  trivial
theorem takeWhile_d {w : World} {cx cd : Addr} {k1 k2 t ta tb : Tok} {x y r : Str} {a : Int} {c j : Nat} (hr9 : Txt.slice x (some a) (some (a + (j : Int))) = r) (hend : (x.length : Int) ≤ a + (j : Int) ∨ ∃ d, AtC x (a + (j : Int)) d ∧ inS y d = false) (hall : ∀ i, i < j → AtC x (a + (i : Nat)) c) (hin : inS y c = true) (h0 : 0 ≤ a) (hz : x.length ≤ 5000) (hj : a + j ≤ x.length) (rest : Led) (hr : ∀ p ∈ rest, p.1 ≠ cd) :
    Ct w 167 [.ref cx, .str y tb] 4 40 ((cd, curD w k1 k2 x t a ta) :: ([(cx, instObj 234 cd)] ++ rest))
      (R1 (ι := Tok × Tok) (fun _ => True) (fun _ => []) (fun i => .str r i.1) ((cd, curD w k1 k2 x t a ta) :: ([(cx, instObj 234 cd)] ++ rest)) (fun i => [] ++ (cd, curD w k1 k2 x t (a + (j : Int)) i.2) :: ([(cx, instObj 234 cd)] ++ rest))) := by
  dsimp only [List.cons_append, List.nil_append]
  refine' Ct.of [(Str.ofString "self", .ref cx), (Str.ofString "signs", .str y tb)] ?ho ?hcd ?hb ?hl ?hco ?hg ?hk ?hc ?bd
  case ho => k_is
  case hcd => k_is
  case hb => exact fun s9 X9 => by first | exact BindsTo.of_eq rfl | exact binds_K X9 rfl (by k_is) rfl rfl rfl
  case hl => exact locs rfl
  case hco => rfl
  case hg => rfl
  case hk => rfl
  case hc => rfl
  case' bd => (intro dp un gd outer A₀ base g L h o k p loose mean mg mb E B F X N T hdp hun he hE; k_fold; have hEO := envOk he (by kernel_rfl); (try have hBO := bindsOk F (by kernel_rfl)); have hMk : KstMark := kstMark)
  k_steps
  refine Halt.go ?_
  rename Fr _ _ _ _ => F9
  rename News _ _ _ _ => N9
  refine while_wn (j + 1) ?_ hE
  have ea : a = a + ((0 : Nat) : Int) := by omega
  rw [ea] at N9
  refine WN.count j 1 (fun i (c : Tok) => (cd, curD w k1 k2 x t (a + (i : Nat)) c) :: (cx, instObj 234 cd) :: rest) (fun _ _ => []) [] ta F9 N9 (fun p hp => nomatch hp) ?turn ?fin
  case turn =>
    clear F9 N9
    intro i u v h3 tk3 hi F3 N3
    have hAt := hall i hi
    have hlt := hAt.hi
    dsimp only [kstB, List.contains_nil] at F3
    refine ⟨?_⟩
    k_steps
    have e : a + ((i + 1 : Nat) : Int) = a + (i : Nat) + 1 := by omega
    rw [e]
    exact TE.of _ F9 N9 (fun p hp => hp) (fun p hp => nomatch hp) (fun z _ _ => rfl)
  case fin =>
    clear F9 N9
    intro u v h3 tk3 F3 N3
    dsimp only [kstB, List.contains_nil] at F3
    refine WN.turn ⟨?_⟩
    rcases hend with hge | ⟨d, hAt, hin⟩
    · k_steps
      exact R1.ret' (_, _) trivial nofresh (by assumption) (by assumption) (congrArg (Value.str · _) hr9)
    · have hlt := hAt.hi
      k_steps
      exact R1.ret' (_, _) trivial nofresh (by assumption) (by assumption) (congrArg (Value.str · _) hr9)
theorem regC22 : True := by
  k_with "w call ref" => ((fail_if_success k_extra "off C2"); (((k_here; (with_reducible show wpAny _ _ (call (Value.ref 167) _) _ _ _); k_dflt (refine' call1 (fun rest hr => takeWhile_d ?hzs0 ?hzs1 ?hzs2 ?hzs3 ?hzs4 ?hzs5 ?hzs6 rest hr) ?hzkB ?hzkF ?hzkX ?hzkN ?hzkT ?hzkk ?hzkd ?hzku ?hzkx ?hzkr ?hzkU ?_; k_extra "D com1"; (case hzs6 => k_extra "D side"); (case hzs5 => k_extra "D side"); (case hzs4 => k_extra "D side"); (case hzs3 => k_extra "D side"); (case hzs2 => k_extra "D side"); (case hzs1 => k_extra "D side"); (case hzs0 => k_extra "D side")); k_extra "D fin"))))
  trivial
theorem skipBlanks_d {w : World} {cx cd : Addr} {k1 k2 t ta tb : Tok} {x y : Str} {a : Int} {c j : Nat} (hend : (x.length : Int) ≤ a + (j : Int) ∨ ∃ d, AtC x (a + (j : Int)) d ∧ inS y d = false) (hall : ∀ i, i < j → AtC x (a + (i : Nat)) c) (hin : inS y c = true) (h0 : 0 ≤ a) (hz : x.length ≤ 5000) (hj : a + j ≤ x.length) (rest : Led) (hr : ∀ p ∈ rest, p.1 ≠ cd) :
    Ct w 182 [.ref cx, .str y tb] 6 60 ((cd, curD w k1 k2 x t a ta) :: ([(cx, instObj 234 cd)] ++ rest))
      (R1 (ι := Tok) (fun _ => True) (fun _ => []) (fun _ => .none) ((cd, curD w k1 k2 x t a ta) :: ([(cx, instObj 234 cd)] ++ rest)) (fun i => [] ++ (cd, curD w k1 k2 x t (a + (j : Int)) i) :: ([(cx, instObj 234 cd)] ++ rest))) := by
  dsimp only [List.cons_append, List.nil_append]
  have hr9 : Txt.slice x (some a) (some (a + (j : Int))) = Txt.slice x (some a) (some (a + (j : Int))) := rfl
  refine' Ct.of [(Str.ofString "self", .ref cx), (Str.ofString "signs", .str y tb)] ?ho ?hcd ?hb ?hl ?hco ?hg ?hk ?hc ?bd
  case ho => k_is
  case hcd => k_is
  case hb => exact fun s9 X9 => by first | exact BindsTo.of_eq rfl | exact binds_K X9 rfl (by k_is) rfl rfl rfl
  case hl => exact locs rfl
  case hco => rfl
  case hg => rfl
  case hk => rfl
  case hc => rfl
  case' bd => (intro dp un gd outer A₀ base g L h o k p loose mean mg mb E B F X N T hdp hun he hE; k_fold; have hEO := envOk he (by kernel_rfl); (try have hBO := bindsOk F (by kernel_rfl)); have hMk : KstMark := kstMark)
  k_steps
  exact R1.next' _ trivial nofresh (by assumption) (by assumption) rfl
end
theorem offC2 : True := by
  k_with "off C2" => skip
  trivial
section
theorem regC31 : True := by
  k_with "w call ref" => ((fail_if_success k_extra "off C3"); (((k_here; (with_reducible show wpAny _ _ (call (Value.ref 139) _) _ _ _); k_dflt (refine' call0 (peek0_d ?hzs0 ?hzs1 ?hzs2 ?hzs3) ?hzkB ?hzkF ?hzkX ?hzkN ?hzkT ?hzkk ?hzkd ?hzku ?_; k_extra "D com"; (case hzs3 => k_extra "D side"); (case hzs2 => k_extra "D side"); (case hzs1 => k_extra "D side"); (case hzs0 => k_extra "D side")); k_extra "D fin"))))
  k_with "w call ref" => ((fail_if_success k_extra "off C3"); (((k_here; (with_reducible show wpAny _ _ (call (Value.ref 167) _) _ _ _); k_dflt (refine' call1 (fun rest hr => takeWhile_d ?hzs0 ?hzs1 ?hzs2 ?hzs3 ?hzs4 ?hzs5 ?hzs6 rest hr) ?hzkB ?hzkF ?hzkX ?hzkN ?hzkT ?hzkk ?hzkd ?hzku ?hzkx ?hzkr ?hzkU ?_; k_extra "D com1"; (case hzs6 => k_extra "D side"); (case hzs5 => k_extra "D side"); (case hzs4 => k_extra "D side"); (case hzs3 => k_extra "D side"); (case hzs2 => k_extra "D side"); (case hzs1 => k_extra "D side"); (case hzs0 => k_extra "D side")); k_extra "D fin"))))
  trivial
noncomputable abbrev nameSigns : Str := Str.ofString "abcdefghijklmnopqrstuvwxyzABCDEFGHIJKLMNOPQRSTUVWXYZ_0123456789"
noncomputable abbrev figs : Str := Str.ofString "0123456789"
theorem name_d {w : World} {cx cd : Addr} {k1 k2 t ta : Tok} {x : Str} {a : Int} {c : Nat} {news : Led} (hn : inS nameSigns c = false) (hc : AtC x a c) (hz : x.length ≤ 5000) (h1 : (cx, instObj 234 cd) ∈ news) (h2 : (cd, curD w k1 k2 x t a ta) ∈ news) :
    Ct w 189 [.ref cx] 4 40 news (R1 (ι := Tok) (fun _ => True) (fun _ => []) (fun i => .str (Str.ofString "") i) news (fun _ => [] ++ news)) := by
  have hn2 : (!inS nameSigns c) = true := by rw [hn]; rfl
  refine' Ct.of [(Str.ofString "self", .ref cx)] ?ho ?hcd ?hb ?hl ?hco ?hg ?hk ?hc ?bd
  case ho => k_is
  case hcd => k_is
  case hb => exact fun s9 X9 => by first | exact BindsTo.of_eq rfl | exact binds_K X9 rfl (by k_is) rfl rfl rfl
  case hl => exact locs rfl
  case hco => rfl
  case hg => rfl
  case hk => rfl
  case hc => rfl
  case' bd => (intro dp un gd outer A₀ base g L h o k p loose mean mg mb E B F X N T hdp hun he hE; k_fold; have hEO := envOk he (by kernel_rfl); (try have hBO := bindsOk F (by kernel_rfl)); have hMk : KstMark := kstMark)
  k_steps
  exact R1.ret' _ trivial nofresh (by assumption) (by assumption) rfl
theorem number_d {w : World} {cx cd : Addr} {k1 k2 t ta : Tok} {x : Str} {a : Int} {c : Nat} (hn : inS figs c = false) (hc : AtC x a c) (hz : x.length ≤ 5000) (rest : Led) (hr : ∀ p ∈ rest, p.1 ≠ cd) :
    Ct w 196 [.ref cx] 6 60 ((cd, curD w k1 k2 x t a ta) :: ([(cx, instObj 234 cd)] ++ rest))
      (R1 (ι := Tok) (fun _ => True) (fun _ => []) (fun _ => .none) ((cd, curD w k1 k2 x t a ta) :: ([(cx, instObj 234 cd)] ++ rest)) (fun i => [] ++ (cd, curD w k1 k2 x t a i) :: ([(cx, instObj 234 cd)] ++ rest))) := by
  dsimp only [List.cons_append, List.nil_append]
  have e1 := hc.lo
  have e2 := hc.hi
  have hr9 := slice0 (x := x) e1 (Int.le_of_lt e2)
  have hj : a + ((0 : Nat) : Int) ≤ x.length := by omega
  have hend : (x.length : Int) ≤ a + ((0 : Nat) : Int) ∨ ∃ d, AtC x (a + ((0 : Nat) : Int)) d ∧ inS figs d = false := .inr ⟨c, by rw [show a + ((0 : Nat) : Int) = a by omega]; exact hc, hn⟩
  have hall : ∀ i, i < 0 → AtC x (a + (i : Nat)) 48 := fun i hi => absurd hi (Nat.not_lt_zero _)
  have hin : inS figs 48 = true := by decide +kernel
  refine' Ct.of [(Str.ofString "self", .ref cx)] ?ho ?hcd ?hb ?hl ?hco ?hg ?hk ?hc ?bd
  case ho => k_is
  case hcd => k_is
  case hb => exact fun s9 X9 => by first | exact BindsTo.of_eq rfl | exact binds_K X9 rfl (by k_is) rfl rfl rfl
  case hl => exact locs rfl
  case hco => rfl
  case hg => rfl
  case hk => rfl
  case hc => rfl
  case' bd => (intro dp un gd outer A₀ base g L h o k p loose mean mg mb E B F X N T hdp hun he hE; k_fold; have hEO := envOk he (by kernel_rfl); (try have hBO := bindsOk F (by kernel_rfl)); have hMk : KstMark := kstMark)
  k_steps
  exact R1.ret' _ trivial nofresh (by assumption) (by assumption) rfl
end
theorem offC3 : True := by
  k_with "off C3" => skip
  trivial
section
theorem regC41 : True := by
  k_with "w call ref" => ((fail_if_success k_extra "off C4"); (((k_here; (with_reducible show wpAny _ _ (call (Value.ref 139) _) _ _ _); k_dflt (refine' call0 (peek0_d ?hzs0 ?hzs1 ?hzs2 ?hzs3) ?hzkB ?hzkF ?hzkX ?hzkN ?hzkT ?hzkk ?hzkd ?hzku ?_; k_extra "D com"; (case hzs3 => k_extra "D side"); (case hzs2 => k_extra "D side"); (case hzs1 => k_extra "D side"); (case hzs0 => k_extra "D side")); k_extra "D fin"))))
  k_with "w call ref" => ((fail_if_success k_extra "off C4"); (((k_here; (with_reducible show wpAny _ _ (call (Value.ref 153) _) _ _ _); k_dflt (refine' call1 (fun rest hr => take_d ?hzs0 ?hzs1 rest hr) ?hzkB ?hzkF ?hzkX ?hzkN ?hzkT ?hzkk ?hzkd ?hzku ?hzkx ?hzkr ?hzkU ?_; k_extra "D com1"; (case hzs1 => k_extra "D side"); (case hzs0 => k_extra "D side")); k_extra "D fin"))))
  k_with "w exec While BoolOp cons nil" => ((fail_if_success k_extra "off C4"); (((refine Halt.out ?_))))
  k_with "w call type:int" => ((fail_if_success k_extra "off C4"); (((k_here; (with_reducible first | refine int16_4 ?_ | refine int16_1 ?_)))))
  trivial
noncomputable abbrev hexS : Str := Str.ofString "0123456789abcdefABCDEF"
theorem coded_d {w : World} {cx cd : Addr} {k1 k2 t ta tb tc td : Tok} {x : Str} {a : Int} (hc : AtC x a 52) (hc2 : AtC x (a + 1) 49) (hz : x.length ≤ 5000) (rest : Led) (hr : ∀ p ∈ rest, p.1 ≠ cd) :
    Ct w 217 [.ref cx, .str hexS tb, .int 2 tc, .int 16 td] 6 60 ((cd, curD w k1 k2 x t a ta) :: ([(cx, instObj 234 cd)] ++ rest))
      (R1 (ι := Tok × Tok) (fun _ => True) (fun _ => []) (fun i => .str ⟨#[65]⟩ i.1) ((cd, curD w k1 k2 x t a ta) :: ([(cx, instObj 234 cd)] ++ rest)) (fun i => [] ++ (cd, curD w k1 k2 x t (a + 1 + 1) i.2) :: ([(cx, instObj 234 cd)] ++ rest))) := by
  dsimp only [List.cons_append, List.nil_append]
  refine' Ct.of [(Str.ofString "self", .ref cx), (Str.ofString "signs", .str hexS tb), (Str.ofString "most", .int 2 tc), (Str.ofString "base", .int 16 td)] ?ho ?hcd ?hb ?hl ?hco ?hg ?hk ?hc ?bd
  case ho => k_is
  case hcd => k_is
  case hb => exact fun s9 X9 => by first | exact BindsTo.of_eq rfl | exact binds_K X9 rfl (by k_is) rfl rfl rfl
  case hl => exact locs rfl
  case hco => rfl
  case hg => rfl
  case hk => rfl
  case hc => rfl
  case' bd => (intro dp un gd outer A₀ base g L h o k p loose mean mg mb E B F X N T hdp hun he hE; k_fold; have hEO := envOk he (by kernel_rfl); (try have hBO := bindsOk F (by kernel_rfl)); have hMk : KstMark := kstMark)
  k_steps
  refine Halt.go ?_
  refine while_wn 3 ?_ hE
  refine WN.turn ⟨?_⟩
  k_steps
  refine WN.turn ⟨?_⟩
  k_steps
  refine WN.turn ⟨?_⟩
  k_steps
  exact R1.ret' (_, _) trivial nofresh (by assumption) (by assumption) rfl
end
theorem offC4 : True := by
  k_with "off C4" => skip
  trivial
section
theorem regC51 : True := by
  k_with "w call ref" => ((fail_if_success k_extra "off C5"); (((k_here; (with_reducible show wpAny _ _ (call (Value.ref 139) _) _ _ _); k_dflt (refine' call0 (peek0_d ?hzs0 ?hzs1 ?hzs2 ?hzs3) ?hzkB ?hzkF ?hzkX ?hzkN ?hzkT ?hzkk ?hzkd ?hzku ?_; k_extra "D com"; (case hzs3 => k_extra "D side"); (case hzs2 => k_extra "D side"); (case hzs1 => k_extra "D side"); (case hzs0 => k_extra "D side")); k_extra "D fin"))))
  k_with "w call ref" => ((fail_if_success k_extra "off C5"); (((k_here; (with_reducible show wpAny _ _ (call (Value.ref 139) _) _ _ _); k_dflt (refine' call0 (peek_d ?hzs0 ?hzs1 ?hzs2 ?hzs3) ?hzkB ?hzkF ?hzkX ?hzkN ?hzkT ?hzkk ?hzkd ?hzku ?_; k_extra "D com"; (case hzs3 => k_extra "D side"); (case hzs2 => k_extra "D side"); (case hzs1 => k_extra "D side"); (case hzs0 => k_extra "D side")); k_extra "D fin"))))
  k_with "w call ref" => ((fail_if_success k_extra "off C5"); (((k_here; (with_reducible show wpAny _ _ (call (Value.ref 153) _) _ _ _); k_dflt (refine' call1 (fun rest hr => take_d ?hzs0 ?hzs1 rest hr) ?hzkB ?hzkF ?hzkX ?hzkN ?hzkT ?hzkk ?hzkd ?hzku ?hzkx ?hzkr ?hzkU ?_; k_extra "D com1"; (case hzs1 => k_extra "D side"); (case hzs0 => k_extra "D side")); k_extra "D fin"))))
  k_with "w call ref" => ((fail_if_success k_extra "off C5"); (((k_here; (with_reducible show wpAny _ _ (call (Value.ref 217) _) _ _ _); k_dflt (refine' call1 (fun rest hr => coded_d ?hzs0 ?hzs1 ?hzs2 rest hr) ?hzkB ?hzkF ?hzkX ?hzkN ?hzkT ?hzkk ?hzkd ?hzku ?hzkx ?hzkr ?hzkU ?_; k_extra "D com1"; (case hzs2 => k_extra "D side"); (case hzs1 => k_extra "D side"); (case hzs0 => k_extra "D side")); k_extra "D fin"))))
  trivial
theorem escN {w : World} {cx cd : Addr} {k1 k2 t ta : Tok} {x : Str} {a : Int} (hc : AtC x a 110) (hz : x.length ≤ 5000) (rest : Led) (hr : ∀ p ∈ rest, p.1 ≠ cd) :
    Ct w 224 [.ref cx] 10 90 ((cd, curD w k1 k2 x t a ta) :: ([(cx, instObj 234 cd)] ++ rest))
      (R1 (ι := Tok × Tok) (fun _ => True) (fun _ => []) (fun i => .str ⟨#[10]⟩ i.1) ((cd, curD w k1 k2 x t a ta) :: ([(cx, instObj 234 cd)] ++ rest)) (fun i => [] ++ (cd, curD w k1 k2 x t (a + 1) i.2) :: ([(cx, instObj 234 cd)] ++ rest))) := by
  dsimp only [List.cons_append, List.nil_append]
  refine' Ct.of [(Str.ofString "self", .ref cx)] ?ho ?hcd ?hb ?hl ?hco ?hg ?hk ?hc ?bd
  case ho => k_is
  case hcd => k_is
  case hb => exact fun s9 X9 => by first | exact BindsTo.of_eq rfl | exact binds_K X9 rfl (by k_is) rfl rfl rfl
  case hl => exact locs rfl
  case hco => rfl
  case hg => rfl
  case hk => rfl
  case hc => rfl
  case' bd => (intro dp un gd outer A₀ base g L h o k p loose mean mg mb E B F X N T hdp hun he hE; k_fold; have hEO := envOk he (by kernel_rfl); (try have hBO := bindsOk F (by kernel_rfl)); have hMk : KstMark := kstMark)
  k_steps
  exact R1.ret' (_, _) trivial nofresh (by assumption) (by assumption) rfl
theorem escX {w : World} {cx cd : Addr} {k1 k2 t ta : Tok} {x : Str} {a : Int} (h3 : AtC x (a + 1 + 1) 49) (h2 : AtC x (a + 1) 52) (hc : AtC x a 120) (hz : x.length ≤ 5000) (rest : Led) (hr : ∀ p ∈ rest, p.1 ≠ cd) :
    Ct w 224 [.ref cx] 10 90 ((cd, curD w k1 k2 x t a ta) :: ([(cx, instObj 234 cd)] ++ rest))
      (R1 (ι := Tok × Tok) (fun _ => True) (fun _ => []) (fun i => .str ⟨#[65]⟩ i.1) ((cd, curD w k1 k2 x t a ta) :: ([(cx, instObj 234 cd)] ++ rest)) (fun i => [] ++ (cd, curD w k1 k2 x t (a + 1 + 1 + 1) i.2) :: ([(cx, instObj 234 cd)] ++ rest))) := by
  dsimp only [List.cons_append, List.nil_append]
  refine' Ct.of [(Str.ofString "self", .ref cx)] ?ho ?hcd ?hb ?hl ?hco ?hg ?hk ?hc ?bd
  case ho => k_is
  case hcd => k_is
  case hb => exact fun s9 X9 => by first | exact BindsTo.of_eq rfl | exact binds_K X9 rfl (by k_is) rfl rfl rfl
  case hl => exact locs rfl
  case hco => rfl
  case hg => rfl
  case hk => rfl
  case hc => rfl
  case' bd => (intro dp un gd outer A₀ base g L h o k p loose mean mg mb E B F X N T hdp hun he hE; k_fold; have hEO := envOk he (by kernel_rfl); (try have hBO := bindsOk F (by kernel_rfl)); have hMk : KstMark := kstMark)
  k_steps
  exact R1.ret' (_, _) trivial nofresh (by assumption) (by assumption) rfl
end
theorem offC5 : True := by
  k_with "off C5" => skip
  trivial
section
theorem regC61 : True := by
  k_with "w call ref" => ((fail_if_success k_extra "off C6"); (((k_here; (with_reducible show wpAny _ _ (call (Value.ref 131) _) _ _ _); k_dflt (refine' call0 (isDoneF ?hzs0 ?hzs1 ?hzs2 ?hzs3) ?hzkB ?hzkF ?hzkX ?hzkN ?hzkT ?hzkk ?hzkd ?hzku ?_; k_extra "D com"; (case hzs3 => k_extra "D side"); (case hzs2 => k_extra "D side"); (case hzs1 => k_extra "D side"); (case hzs0 => k_extra "D side")); k_extra "D fin"))))
  k_with "w call ref" => ((fail_if_success k_extra "off C6"); (((k_here; (with_reducible show wpAny _ _ (call (Value.ref 153) _) _ _ _); k_dflt (refine' call1 (fun rest hr => take_d ?hzs0 ?hzs1 rest hr) ?hzkB ?hzkF ?hzkX ?hzkN ?hzkT ?hzkk ?hzkd ?hzku ?hzkx ?hzkr ?hzkU ?_; k_extra "D com1"; (case hzs1 => k_extra "D side"); (case hzs0 => k_extra "D side")); k_extra "D fin"))))
  k_with "w call ref" => ((fail_if_success k_extra "off C6"); (((k_here; (with_reducible show wpAny _ _ (call (Value.ref 224) _) _ _ _); k_dflt (refine' call1 (fun rest hr => escN ?hzs0 ?hzs1 rest hr) ?hzkB ?hzkF ?hzkX ?hzkN ?hzkT ?hzkk ?hzkd ?hzku ?hzkx ?hzkr ?hzkU ?_; k_extra "D com1"; (case hzs1 => k_extra "D side"); (case hzs0 => k_extra "D side")); k_extra "D fin"))))
  k_with "w call ref" => ((fail_if_success k_extra "off C6"); (((k_here; (with_reducible show wpAny _ _ (call (Value.ref 224) _) _ _ _); k_dflt (refine' call1 (fun rest hr => escX ?hzs0 ?hzs1 ?hzs2 ?hzs3 rest hr) ?hzkB ?hzkF ?hzkX ?hzkN ?hzkT ?hzkk ?hzkd ?hzku ?hzkx ?hzkr ?hzkU ?_; k_extra "D com1"; (case hzs3 => k_extra "D side"); (case hzs2 => k_extra "D side"); (case hzs1 => k_extra "D side"); (case hzs0 => k_extra "D side")); k_extra "D fin"))))
  k_with "w exec While UnaryOp cons nil" => ((fail_if_success k_extra "off C6"); (((refine Halt.out ?_))))
  k_with "w call builtin:str.join" => ((fail_if_success k_extra "off C6"); (((k_here; k_dflt (refine' join_chs ?hzk1 ?hzk2 ?hzk3 ?_; (case hzk1 => k_asm); (case hzk2 => k_mem); (case hzk3 => assumption); k_whole)))))
  trivial
theorem quoted_d {w : World} {cx cd : Addr} {k1 k2 t ta te : Tok} {x : Str} {a e : Int} {j : Nat} {ws : List Nat} (hsh : Shown x (a + (j : Int)) ws e) (hall : ∀ i, i < j → AtC x (a + (i : Nat)) 98) (hj : j ≤ 2001) (hz : x.length ≤ 5000) (rest : Led) (hr : ∀ p ∈ rest, p.1 ≠ cd) :
    Ct w 231 [.ref cx, .str (Str.ofString "\"") te] 14 140 ((cd, curD w k1 k2 x t a ta) :: ([(cx, instObj 234 cd)] ++ rest))
      (R1 (ι := Tok × Tok) (fun _ => True) (fun _ => []) (fun i => .str ⟨(List.replicate j 98 ++ ws).toArray⟩ i.1) ((cd, curD w k1 k2 x t a ta) :: ([(cx, instObj 234 cd)] ++ rest)) (fun i => [] ++ (cd, curD w k1 k2 x t (a + (j : Int) + e) i.2) :: ([(cx, instObj 234 cd)] ++ rest))) := by
  dsimp only [List.cons_append, List.nil_append]
  refine' Ct.of [(Str.ofString "self", .ref cx), (Str.ofString "end", .str (Str.ofString "\"") te)] ?ho ?hcd ?hb ?hl ?hco ?hg ?hk ?hc ?bd
  case ho => k_is
  case hcd => k_is
  case hb => exact fun s9 X9 => by first | exact BindsTo.of_eq rfl | exact binds_K X9 rfl (by k_is) rfl rfl rfl
  case hl => exact locs rfl
  case hco => rfl
  case hg => rfl
  case hk => rfl
  case hc => rfl
  case' bd => (intro dp un gd outer A₀ base g L h o k p loose mean mg mb E B F X N T hdp hun he hE; k_fold; have hEO := envOk he (by kernel_rfl); (try have hBO := bindsOk F (by kernel_rfl)); have hMk : KstMark := kstMark)
  k_steps
  refine Halt.go ?_
  rename_i st _ l1 _ F9 N9
  have hst : Fresh st rest := ⟨fresh_lt l1.2.2⟩
  clear l1
  refine while_wn (j + 2) ?_ hE
  have ea : a = a + ((0 : Nat) : Int) := by omega
  rw [ea] at N9
  refine WN.count j 2 (fun i (c : (Nat → Tok) × Nat × Tok) => (st, W.listOf (chs (bl c.1 i)).toArray c.2.1) :: (cd, curD w k1 k2 x t (a + (i : Nat)) c.2.2) :: (cx, instObj 234 cd) :: rest) (fun _ _ => []) [Str.ofString "sign"] (fun _ => 0, 0, ta) F9 N9 (fun p hp => nomatch hp) ?turn ?fin
  case turn =>
    clear F9 N9 hsh
    intro i u v h3 tk3 hi F3 N3
    have hAt := hall i hi
    have hlt := hAt.hi
    dsimp only [kstB, List.contains_nil] at F3
    have hz2 : (chs (bl u.1 i)).toArray.size ≤ sizeLine := size_arr (n := 5000) (by rw [chs_len, bl_len]; omega) (by decide)
    refine ⟨?_⟩
    k_steps
    rename News _ _ _ _ => NN
    rw [push_bl] at NN
    have e : a + ((i + 1 : Nat) : Int) = a + (i : Nat) + 1 := by omega
    rw [e]
    exact TE.of (_, _, _) (by assumption) NN (fun p hp => hp) (fun p hp => nomatch hp) (fun z _ h2 => by
      simp only [List.contains_cons, List.contains_nil, Bool.or_false, beq_eq_false_iff_ne, ne_eq] at h2
      simp [h2])
  case fin =>
    clear F9 N9 hall
    intro u v h3 tk3 F3 N3
    dsimp only [kstB] at F3
    have hcl := hsh.close
    have hfew := hsh.few
    refine WN.mid (led := fun (c : {l : List (Nat × Tok) // l.map (·.1) = List.replicate j 98 ++ ws} × Nat × Tok) => (st, W.listOf (chs c.1.1).toArray c.2.1) :: (cd, curD w k1 k2 x t (a + (j : Int) + (e - 1)) c.2.2) :: (cx, instObj 234 cd) :: rest) (ps := fun _ => []) F3 rfl ?mid ?last
    case mid =>
      clear hcl hfew
      have hz2 : (chs (bl u.1 j)).toArray.size ≤ sizeLine := size_arr (n := 5000) (by rw [chs_len, bl_len]; omega) (by decide)
      rcases hsh with ⟨hA, rfl, rfl⟩ | ⟨hA, hB, rfl, rfl⟩ | ⟨hA, hB, hC, rfl, rfl⟩ | ⟨hA, hB, hC, hD, hE, rfl, rfl⟩
      · left
        rw [show a + (j : Int) + (1 - 1) = a + (j : Int) by omega]
        exact TE.of (⟨bl u.1 j, bl_app0⟩, _, _) F3 N3 (fun p hp => hp) (fun p hp => nomatch hp) (fun z _ h2 => by
          simp only [List.contains_cons, List.contains_nil, Bool.or_false, beq_eq_false_iff_ne, ne_eq] at h2
          simp [h2])
      · right
        have hlt := hA.hi
        refine ⟨?_⟩
        k_steps
        rename News _ _ _ _ => NN
        rw [push_z] at NN
        rw [show a + (j : Int) + (2 - 1) = a + (j : Int) + 1 by omega]
        exact TE.of (⟨_, bl_app⟩, _, _) (by assumption) NN (fun p hp => hp) (fun p hp => nomatch hp) (fun z _ h2 => by
          simp only [List.contains_cons, List.contains_nil, Bool.or_false, beq_eq_false_iff_ne, ne_eq] at h2
          simp [h2])
      · right
        have hlt := hA.hi
        refine ⟨?_⟩
        k_steps
        rename News _ _ _ _ => NN
        rw [push_n] at NN
        rw [show a + (j : Int) + (3 - 1) = a + (j : Int) + 1 + 1 by omega]
        exact TE.of (⟨_, bl_app⟩, _, _) (by assumption) NN (fun p hp => hp) (fun p hp => nomatch hp) (fun z _ h2 => by
          simp only [List.contains_cons, List.contains_nil, Bool.or_false, beq_eq_false_iff_ne, ne_eq] at h2
          simp [h2])
      · right
        have hlt := hA.hi
        refine ⟨?_⟩
        k_steps
        rename News _ _ _ _ => NN
        rw [push_A] at NN
        rw [show a + (j : Int) + (5 - 1) = a + (j : Int) + 1 + 1 + 1 + 1 by omega]
        exact TE.of (⟨_, bl_app⟩, _, _) (by assumption) NN (fun p hp => hp) (fun p hp => nomatch hp) (fun z _ h2 => by
          simp only [List.contains_cons, List.contains_nil, Bool.or_false, beq_eq_false_iff_ne, ne_eq] at h2
          simp [h2])
    case last =>
      clear F3 N3 hsh u v
      intro P u v h3 tk3 F3 N3
      dsimp only [kstB] at F3
      obtain ⟨⟨l, hl⟩, n, tb⟩ := u
      dsimp only at N3
      have hlt := hcl.hi
      have hz3 : l.length ≤ 5000 := by
        have := congrArg List.length hl
        simp only [List.length_map, List.length_append, List.length_replicate] at this
        omega
      refine ⟨?_⟩
      k_steps
      rename News _ _ _ _ => NN
      rw [show a + (j : Int) + (e - 1) + 1 = a + (j : Int) + e by omega] at NN
      exact R1.ret (_, _) trivial nofresh (by assumption) NN (by rw [hl]) (by kcj_all)
end
theorem offC6 : True := by
  k_with "off C6" => skip
  trivial
section
noncomputable abbrev partD (w : World) (k1 k2 k3 : Tok) (kind worth off : Value) : Obj := dictOf [en w "kind" k1 kind, en w "worth" k2 worth, en w "offset" k3 off] 3
theorem pinit_d {w : World} {x dx : Addr} {kind worth off : Value} {news : Led} (l1 : ∀ p ∈ news, p.1 < dx) (l2 : dx < x) :
    Ct w 258 [.ref x, kind, worth, off] 2 20 ((x, instObj 261 dx) :: (dx, dictOf [] 0) :: news)
      (fun r l => r = .none ∧ R1 (ι := Addr × Addr × Tok × Tok × Tok) (fun _ => True) (fun i => [i.1, i.2.1]) (fun i => .ref i.1) news (fun i => [(i.1, instObj 261 i.2.1), (i.2.1, partD w i.2.2.1 i.2.2.2.1 i.2.2.2.2 kind worth off)] ++ news) (.ref x) l) := by
  refine' Ct.of [(Str.ofString "self", .ref x), (Str.ofString "kind", kind), (Str.ofString "worth", worth), (Str.ofString "offset", off)] ?ho ?hcd ?hb ?hl ?hco ?hg ?hk ?hc ?bd
  case ho => k_is
  case hcd => k_is
  case hb => exact fun s9 X9 => by first | exact BindsTo.of_eq rfl | exact binds_K X9 rfl (by k_is) rfl rfl rfl
  case hl => exact locs rfl
  case hco => rfl
  case hg => rfl
  case hk => rfl
  case hc => rfl
  case' bd => (intro dp un gd outer A₀ base g L h o k p loose mean mg mb E B F X N T hdp hun he hE; k_fold; have hEO := envOk he (by kernel_rfl); (try have hBO := bindsOk F (by kernel_rfl)); have hMk : KstMark := kstMark)
  k_steps
  exact R1.init (_, _, _, _, _) trivial (fresh2 (fresh_of fun p hp => Nat.lt_trans (l1 p hp) l2) (fresh_of l1)) (by assumption) (by assumption) rfl
theorem mkPart_d {w : World} {kind worth off : Value} {news : Led} :
    Ct w 261 [kind, worth, off] 3 30 news
      (R1 (ι := Addr × Addr × Tok × Tok × Tok) (fun _ => True) (fun i => [i.1, i.2.1]) (fun i => .ref i.1) news (fun i => [(i.1, instObj 261 i.2.1), (i.2.1, partD w i.2.2.1 i.2.2.2.1 i.2.2.2.2 kind worth off)] ++ news)) := by
  refine' Ct.make (fI := 258) ?a ?b ?c ?d
  case a => k_is
  case b => k_is
  case c => k_is
  case d => exact fun _ _ l1 l2 => pinit_d l1 l2
theorem regC71 : True := by
  k_with "w call ref" => ((fail_if_success k_extra "off C7"); (((k_here; (with_reducible show wpAny _ _ (call (Value.ref 261) _) _ _ _); k_dflt (refine' call0 (mkPart_d ) ?hzkB ?hzkF ?hzkX ?hzkN ?hzkT ?hzkk ?hzkd ?hzku ?_; k_extra "D com"); k_extra "D fin"))))
  k_with "w call ref" => ((fail_if_success k_extra "off C7"); (((k_here; (with_reducible show wpAny _ _ (call (Value.ref 160) _) _ _ _); k_dflt (refine' call1 (fun rest hr => skipT ?hzs0 ?hzs1 ?hzs2 rest hr) ?hzkB ?hzkF ?hzkX ?hzkN ?hzkT ?hzkk ?hzkd ?hzku ?hzkx ?hzkr ?hzkU ?_; k_extra "D com1"; (case hzs2 => k_extra "D side"); (case hzs1 => k_extra "D side"); (case hzs0 => k_extra "D side")); k_extra "D fin"))))
  trivial
theorem scanDollar_d {w : World} {cx cd : Addr} {k1 k2 t ta tt ts : Tok} {x : Str} {a st : Int} (hz : x.length ≤ 5000) (hc : AtC x a 36) (rest : Led) (hr : ∀ p ∈ rest, p.1 ≠ cd) :
    Ct w 279 [.str x tt, .ref cx, .int st ts] 8 90 ((cd, curD w k1 k2 x t a ta) :: ([(cx, instObj 234 cd)] ++ rest))
      (R1 (ι := Addr × Addr × Tok × Tok × Tok × Tok × Tok) (fun _ => True) (fun i => [i.1, i.2.1]) (fun i => .ref i.1) ((cd, curD w k1 k2 x t a ta) :: ([(cx, instObj 234 cd)] ++ rest))
        (fun i => [(i.1, instObj 261 i.2.1), (i.2.1, partD w i.2.2.1 i.2.2.2.1 i.2.2.2.2.1 (.str (Str.ofString "own") i.2.2.2.2.2.1) .none (.int st ts))] ++ (cd, curD w k1 k2 x t (a + 1) i.2.2.2.2.2.2) :: ([(cx, instObj 234 cd)] ++ rest))) := by
  dsimp only [List.cons_append, List.nil_append]
  have wd : Str.ofString "$" = (⟨#[36]⟩ : Str) := by decide +kernel
  refine' Ct.of [(Str.ofString "text", .str x tt), (Str.ofString "cursor", .ref cx), (Str.ofString "start", .int st ts)] ?ho ?hcd ?hb ?hl ?hco ?hg ?hk ?hc ?bd
  case ho => k_is
  case hcd => k_is
  case hb => exact fun s9 X9 => by first | exact BindsTo.of_eq rfl | exact binds_K X9 rfl (by k_is) rfl rfl rfl
  case hl => exact locs rfl
  case hco => rfl
  case hg => rfl
  case hk => rfl
  case hc => rfl
  case' bd => (intro dp un gd outer A₀ base g L h o k p loose mean mg mb E B F X N T hdp hun he hE; k_fold; have hEO := envOk he (by kernel_rfl); (try have hBO := bindsOk F (by kernel_rfl)); have hMk : KstMark := kstMark)
  k_steps
  exact R1.ret' (_, _, _, _, _, _, _) trivial (fresh2 hA9a.re hA9b.re) (by assumption) (by assumption) rfl
theorem regC72 : True := by
  k_with "w call ref" => ((fail_if_success k_extra "off C7"); (((k_here; (with_reducible show wpAny _ _ (call (Value.ref 139) _) _ _ _); k_dflt (refine' call0 (peek0_d ?hzs0 ?hzs1 ?hzs2 ?hzs3) ?hzkB ?hzkF ?hzkX ?hzkN ?hzkT ?hzkk ?hzkd ?hzku ?_; k_extra "D com"; (case hzs3 => k_extra "D side"); (case hzs2 => k_extra "D side"); (case hzs1 => k_extra "D side"); (case hzs0 => k_extra "D side")); k_extra "D fin"))))
  k_with "w call ref" => ((fail_if_success k_extra "off C7"); (((k_here; (with_reducible show wpAny _ _ (call (Value.ref 153) _) _ _ _); k_dflt (refine' call1 (fun rest hr => take_d ?hzs0 ?hzs1 rest hr) ?hzkB ?hzkF ?hzkX ?hzkN ?hzkT ?hzkk ?hzkd ?hzku ?hzkx ?hzkr ?hzkU ?_; k_extra "D com1"; (case hzs1 => k_extra "D side"); (case hzs0 => k_extra "D side")); k_extra "D fin"))))
  k_with "w call ref" => ((fail_if_success k_extra "off C7"); (((k_here; (with_reducible show wpAny _ _ (call (Value.ref 160) _) _ _ _); k_dflt (refine' call0 (skipF ?hzs0 ?hzs1 ?hzs2 ?hzs3 ?hzs4 ?hzs5) ?hzkB ?hzkF ?hzkX ?hzkN ?hzkT ?hzkk ?hzkd ?hzku ?_; k_extra "D com"; (case hzs5 => k_extra "D side"); (case hzs4 => k_extra "D side"); (case hzs3 => k_extra "D side"); (case hzs2 => k_extra "D side"); (case hzs1 => k_extra "D side"); (case hzs0 => k_extra "D side")); k_extra "D fin"))))
  k_with "w pyIter ref" => ((fail_if_success k_extra "off C7"); (((refine Halt.out ?_))))
  k_with "w exec For Name Name cons nil" => ((fail_if_success k_extra "off C7"); (((k_here; (rename Fr _ _ _ _ => lF'); (with_unfolding_all refine' For_turnsG lF' ?hzg ?_; (case hzg => exact rfl); k_whole)))))
  trivial
theorem two_ne {x y : Str} {a : Int} {d d2 : Nat} (hc : AtC x a 61) (hc2 : AtC x (a + 1) 32) (hy : y = ⟨#[d, d2]⟩) (hb : (61 == d && 32 == d2) = false) : (Txt.slice x (some a) (some (a + (y.length : Int))) == y) = false := (starts2 hc hc2 hy).trans hb
theorem scanSign_d {w : World} {cx cd : Addr} {k1 k2 t ta tt ts : Tok} {x : Str} {a st : Int} (hz : x.length ≤ 5000) (hc : AtC x a 61) (hc2 : AtC x (a + 1) 32) (rest : Led) (hr : ∀ p ∈ rest, p.1 ≠ cd) :
    Ct w 286 [.str x tt, .ref cx, .int st ts] 8 90 ((cd, curD w k1 k2 x t a ta) :: ([(cx, instObj 234 cd)] ++ rest))
      (R1 (ι := Addr × Addr × Tok × Tok × Tok × Tok × Tok × Tok) (fun _ => True) (fun i => [i.1, i.2.1]) (fun i => .ref i.1) ((cd, curD w k1 k2 x t a ta) :: ([(cx, instObj 234 cd)] ++ rest))
        (fun i => [(i.1, instObj 261 i.2.1), (i.2.1, partD w i.2.2.1 i.2.2.2.1 i.2.2.2.2.1 (.str (Str.ofString "sign") i.2.2.2.2.2.1) (.str (Str.ofString "=") i.2.2.2.2.2.2.1) (.int st ts))] ++ (cd, curD w k1 k2 x t (a + 1) i.2.2.2.2.2.2.2) :: ([(cx, instObj 234 cd)] ++ rest))) := by
  dsimp only [List.cons_append, List.nil_append]
  have e1 := hc.lo
  have q1 := two_ne (y := Str.ofString "||") hc hc2 (d := 124) (d2 := 124) (by decide +kernel) (by decide)
  have q2 := two_ne (y := Str.ofString "&&") hc hc2 (d := 38) (d2 := 38) (by decide +kernel) (by decide)
  have q3 := two_ne (y := Str.ofString "==") hc hc2 (d := 61) (d2 := 61) (by decide +kernel) (by decide)
  have q4 := two_ne (y := Str.ofString "!=") hc hc2 (d := 33) (d2 := 61) (by decide +kernel) (by decide)
  have q5 := two_ne (y := Str.ofString "<=") hc hc2 (d := 60) (d2 := 61) (by decide +kernel) (by decide)
  have q6 := two_ne (y := Str.ofString ">=") hc hc2 (d := 62) (d2 := 61) (by decide +kernel) (by decide)
  refine' Ct.of [(Str.ofString "text", .str x tt), (Str.ofString "cursor", .ref cx), (Str.ofString "start", .int st ts)] ?ho ?hcd ?hb ?hl ?hco ?hg ?hk ?hc ?bd
  case ho => k_is
  case hcd => k_is
  case hb => exact fun s9 X9 => by first | exact BindsTo.of_eq rfl | exact binds_K X9 rfl (by k_is) rfl rfl rfl
  case hl => exact locs rfl
  case hco => rfl
  case hg => rfl
  case hk => rfl
  case hc => rfl
  case' bd => (intro dp un gd outer A₀ base g L h o k p loose mean mg mb E B F X N T hdp hun he hE; k_fold; have hEO := envOk he (by kernel_rfl); (try have hBO := bindsOk F (by kernel_rfl)); have hMk : KstMark := kstMark)
  k_steps
  refine Halt.go ?_
  rename Fr _ _ _ _ => F9
  (with_unfolding_all refine' iter_tupK ?h F9 N X ?k ?c ?d ?z ?_; (case h => with_unfolding_all rfl); (case k => k_is); (case c => exact rfl); (case d => exact rfl); (case z => decide); k_whole)
  intro I l1
  have hI : Fresh I ((cd, curD w k1 k2 x t a ta) :: (cx, instObj 234 cd) :: rest) := ⟨fresh_lt (allLt_of l1)⟩
  refine items_alike (x := Str.ofString "word") (fun v => ∃ y t, v = .str y t ∧ (Txt.slice x (some a) (some (a + (y.length : Int))) == y) = false ∧ y.length ≤ 5) hI.go ?turn ?fin _ _ ?all (fun _ _ => rfl)
  case all =>
    intro v hv
    simp only [List.mem_cons, List.not_mem_nil, or_false] at hv
    rcases hv with rfl | rfl | rfl | rfl | rfl | rfl
    · exact ⟨_, _, rfl, q1, by decide +kernel⟩
    · exact ⟨_, _, rfl, q2, by decide +kernel⟩
    · exact ⟨_, _, rfl, q3, by decide +kernel⟩
    · exact ⟨_, _, rfl, q4, by decide +kernel⟩
    · exact ⟨_, _, rfl, q5, by decide +kernel⟩
    · exact ⟨_, _, rfl, q6, by decide +kernel⟩
  case turn =>
    clear F9 N q1 q2 q3 q4 q5 q6 hc hc2
    rintro v u h3 tk3 ob ⟨y, t9, rfl, q1, q2⟩ F3 N3
    dsimp only at F3 N3
    k_steps
    show TurnB _ _ _ _ _ _ _
    exact ⟨_, _, _, rfl, F9, N9, fun z hz => by simp [hz]⟩
  case fin =>
    clear F9 N q1 q2 q3 q4 q5 q6 hI l1
    intro u h3 tk3 F3 N3
    dsimp only at F3
    k_steps
    exact R1.ret' (_, _, _, _, _, _, _, _) trivial (fresh2 hA9a.re hA9b.re) (by assumption) (by assumption) rfl
end
theorem offC7 : True := by
  k_with "off C7" => skip
  trivial
section
theorem cinit_d {w : World} {x dx : Addr} {y : Str} {t : Tok} {news : Led} (l1 : ∀ p ∈ news, p.1 < dx) (l2 : dx < x) :
    Ct w 124 [.ref x, .str y t] 2 20 ((x, instObj 234 dx) :: (dx, dictOf [] 0) :: news)
      (fun r l => r = .none ∧ R1 (ι := Addr × Addr × Tok × Tok) (fun _ => True) (fun i => [i.1, i.2.1]) (fun i => .ref i.1) news (fun i => [(i.1, instObj 234 i.2.1), (i.2.1, curD w i.2.2.1 i.2.2.2 y t 0 370)] ++ news) (.ref x) l) := by
  refine' Ct.of [(Str.ofString "self", .ref x), (Str.ofString "text", .str y t), (Str.ofString "at", .int 0 370)] ?ho ?hcd ?hb ?hl ?hco ?hg ?hk ?hc ?bd
  case ho => k_is
  case hcd => k_is
  case hb => exact fun s9 X9 => by first | exact BindsTo.of_eq rfl | exact binds_K X9 rfl (by k_is) rfl rfl rfl
  case hl => exact locs rfl
  case hco => rfl
  case hg => rfl
  case hk => rfl
  case hc => rfl
  case' bd => (intro dp un gd outer A₀ base g L h o k p loose mean mg mb E B F X N T hdp hun he hE; k_fold; have hEO := envOk he (by kernel_rfl); (try have hBO := bindsOk F (by kernel_rfl)); have hMk : KstMark := kstMark)
  k_steps
  exact R1.init (_, _, _, _) trivial (fresh2 (fresh_of fun p hp => Nat.lt_trans (l1 p hp) l2) (fresh_of l1)) (by assumption) (by assumption) rfl
theorem mkCursor_d {w : World} {y : Str} {t : Tok} {news : Led} :
    Ct w 234 [.str y t] 3 30 news
      (R1 (ι := Addr × Addr × Tok × Tok) (fun _ => True) (fun i => [i.1, i.2.1]) (fun i => .ref i.1) news (fun i => [(i.1, instObj 234 i.2.1), (i.2.1, curD w i.2.2.1 i.2.2.2 y t 0 370)] ++ news)) := by
  refine' Ct.make (fI := 124) ?a ?b ?c ?d
  case a => k_is
  case b => k_is
  case c => k_is
  case d => exact fun _ _ l1 l2 => cinit_d l1 l2
noncomputable abbrev posD (w : World) (k1 k2 k3 : Tok) (off line col : Value) : Obj := dictOf [en w "offset" k1 off, en w "line" k2 line, en w "column" k3 col] 3
theorem posinit_d {w : World} {x dx : Addr} {off line col : Value} {news : Led} (l1 : ∀ p ∈ news, p.1 < dx) (l2 : dx < x) :
    Ct w 36 [.ref x, off, line, col] 2 20 ((x, instObj 46 dx) :: (dx, dictOf [] 0) :: news)
      (fun r l => r = .none ∧ R1 (ι := Addr × Addr × Tok × Tok × Tok) (fun _ => True) (fun i => [i.1, i.2.1]) (fun i => .ref i.1) news (fun i => [(i.1, instObj 46 i.2.1), (i.2.1, posD w i.2.2.1 i.2.2.2.1 i.2.2.2.2 off line col)] ++ news) (.ref x) l) := by
  refine' Ct.of [(Str.ofString "self", .ref x), (Str.ofString "offset", off), (Str.ofString "line", line), (Str.ofString "column", col)] ?ho ?hcd ?hb ?hl ?hco ?hg ?hk ?hc ?bd
  case ho => k_is
  case hcd => k_is
  case hb => exact fun s9 X9 => by first | exact BindsTo.of_eq rfl | exact binds_K X9 rfl (by k_is) rfl rfl rfl
  case hl => exact locs rfl
  case hco => rfl
  case hg => rfl
  case hk => rfl
  case hc => rfl
  case' bd => (intro dp un gd outer A₀ base g L h o k p loose mean mg mb E B F X N T hdp hun he hE; k_fold; have hEO := envOk he (by kernel_rfl); (try have hBO := bindsOk F (by kernel_rfl)); have hMk : KstMark := kstMark)
  k_steps
  exact R1.init (_, _, _, _, _) trivial (fresh2 (fresh_of fun p hp => Nat.lt_trans (l1 p hp) l2) (fresh_of l1)) (by assumption) (by assumption) rfl
theorem mkPos_d {w : World} {off line col : Value} {news : Led} :
    Ct w 46 [off, line, col] 3 30 news
      (R1 (ι := Addr × Addr × Tok × Tok × Tok) (fun _ => True) (fun i => [i.1, i.2.1]) (fun i => .ref i.1) news (fun i => [(i.1, instObj 46 i.2.1), (i.2.1, posD w i.2.2.1 i.2.2.2.1 i.2.2.2.2 off line col)] ++ news)) := by
  refine' Ct.make (fI := 36) ?a ?b ?c ?d
  case a => k_is
  case b => k_is
  case c => k_is
  case d => exact fun _ _ l1 l2 => posinit_d l1 l2
theorem regC81 : True := by
  k_with "w call ref" => ((fail_if_success k_extra "off C8"); (((k_here; (with_reducible show wpAny _ _ (call (Value.ref 46) _) _ _ _); k_dflt (refine' call0 (mkPos_d ) ?hzkB ?hzkF ?hzkX ?hzkN ?hzkT ?hzkk ?hzkd ?hzku ?_; k_extra "D com"); k_extra "D fin"))))
  k_with "w call builtin:max" => ((fail_if_success k_extra "off C8"); (((k_here; k_dflt (refine' max_ge ?hzk0 ?hzk1 ?hzk2 ?hzk3 ?_; (case hzk0 => rfl); (case hzk1 => k_asm); (case hzk2 => k_asm); (case hzk3 => omega); k_whole); intro h' tk' F' N'))))
  k_with "w call builtin:min" => ((fail_if_success k_extra "off C8"); (((k_here; k_dflt (refine' min_le ?hzk0 ?hzk1 ?hzk2 ?hzk3 ?_; (case hzk0 => rfl); (case hzk1 => k_asm); (case hzk2 => k_asm); (case hzk3 => omega); k_whole); intro h' tk' F' N'))))
  k_with "w pyIter ref" => ((fail_if_success k_extra "off C8"); (((refine Halt.out ?_))))
  trivial
theorem positionOf_d {w : World} {x : Str} {t tb : Tok} {b : Nat} {news : Led} (hno : ∀ i : Nat, i < b → ∃ c, AtC x i c ∧ ((⟨#[c]⟩ : Str) == Str.ofString "\n") = false) (hb : b ≤ x.length) (hz : x.length ≤ 5000) :
    Ct w 57 [.str x t, .int b tb] 6 60 news
      (R1 (ι := Addr × Addr × Tok × Tok × Tok × Tok × Value × Value) (fun _ => True) (fun i => [i.1, i.2.1]) (fun i => .ref i.1) news (fun i => [(i.1, instObj 46 i.2.1), (i.2.1, posD w i.2.2.1 i.2.2.2.1 i.2.2.2.2.1 (.int b i.2.2.2.2.2.1) i.2.2.2.2.2.2.1 i.2.2.2.2.2.2.2)] ++ news)) := by
  refine' Ct.of [(Str.ofString "text", .str x t), (Str.ofString "offset", .int b tb)] ?ho ?hcd ?hb ?hl ?hco ?hg ?hk ?hc ?bd
  case ho => k_is
  case hcd => k_is
  case hb => exact fun s9 X9 => by first | exact BindsTo.of_eq rfl | exact binds_K X9 rfl (by k_is) rfl rfl rfl
  case hl => exact locs rfl
  case hco => rfl
  case hg => rfl
  case hk => rfl
  case hc => rfl
  case' bd => (intro dp un gd outer A₀ base g L h o k p loose mean mg mb E B F X N T hdp hun he hE; k_fold; have hEO := envOk he (by kernel_rfl); (try have hBO := bindsOk F (by kernel_rfl)); have hMk : KstMark := kstMark)
  k_steps
  refine Halt.go ?_
  rename IsRange _ _ _ _ _ _ _ _ => R9
  rename Fr _ _ _ _ => F9
  rename News _ _ _ _ => N9
  (with_unfolding_all refine' iter_rangeUnr (n := b) ?h R9 ?sm ?rs F9 N9 ?_; (case h => with_unfolding_all rfl); k_whole)
  case sm => exact small_one (by omega) (by omega) (by omega) (by omega)
  case rs => exact (rangeSize_nat _ _).trans (by omega)
  clear R9
  intro I l1
  have hI : Fresh I news := ⟨fresh_lt (allLt_of l1)⟩
  refine range_alike hI.go ?turn ?fin b 0 _ (by omega) (fun _ _ => rfl)
  case turn =>
    intro i t3 h3 tk3 ob hi F3 N3
    clear F9 N9
    obtain ⟨c, hAt, hne⟩ := hno i (by omega)
    have hAt' : AtC x (0 + (i : Nat)) c := by rw [show (0 : Int) + (i : Nat) = (i : Nat) by omega]; exact hAt
    dsimp only at F3 N3
    k_steps
    show TurnB _ _ _ _ _ _ _
    exact ⟨_, _, _, rfl, F3, N3, fun z hz => by simp [hz]⟩
  case fin =>
    clear F9 N9 hI l1 hno
    intro u h3 tk3 F3 N3
    dsimp only at F3
    k_steps
    exact R1.ret' (_, _, _, _, _, _, _, _) trivial (fresh2 hA9a.go hA9b.go) (by assumption) (by assumption) rfl
noncomputable abbrev excDr (w : World) (k1 k2 : Tok) (what at_ : Value) : Obj := dictOf [en w "what" k1 what, en w "at" k2 at_] 2
end
theorem offC8 : True := by
  k_with "off C8" => skip
  trivial
section
theorem regC91 : True := by
  k_with "w call ref" => ((fail_if_success k_extra "off C9"); (((k_here; (with_reducible show wpAny _ _ (call (Value.ref 57) _) _ _ _); k_dflt (refine' call0 (positionOf_d ?hzs0 ?hzs1 ?hzs2) ?hzkB ?hzkF ?hzkX ?hzkN ?hzkT ?hzkk ?hzkd ?hzku ?_; k_extra "D com"; (case hzs2 => k_extra "D side"); (case hzs1 => k_extra "D side"); (case hzs0 => k_extra "D side")); k_extra "D fin"))))
  k_with "w getMethod" => ((fail_if_success k_extra "off C9"); (((k_here; (with_reducible show wpAny _ _ (getMethod (Value.type _) _ _) _ _ _); k_dflt (refine' method_type ?hzk1 ?hzk2 ?hzk3 ?hzk4 ?hzk5 ?hzk6 ?_; (case hzk1 => k_asm); (case hzk2 => k_asm); (case hzk3 => rfl); (case hzk4 => first | rfl | decide +kernel); (case hzk5 => k_is); (case hzk6 => k_handed); k_whole)))))
  k_with "w call builtin:Exception.__init__" => ((fail_if_success k_extra "off C9"); (((k_here; (with_reducible show wpAny _ _ (call (Value.builtin _) (Value.ref _ :: _)) _ _ _); k_dflt (refine' exc_init (K := Mine.K _) ?hzF ?hzX ?hzN ?hzp ?hzU ?_ ?hzz; (case hzF => k_asm); (case hzX => k_asm); (case hzN => k_asm); (case hzU => k_updF); (case hzp => kts_isx); (case hzz => size_fits); k_whole); intro T' h' l1 F' N'; (have l2 := l1); (try simp only [AllLt, and_true] at l1); (try dsimp only at N'); (try k_sweep)))))
  k_with "w setAttr ref" => ((fail_if_success k_extra "off C9"); (((k_here; k_dflt (first | (refine' set_exc0 (P := 82) ?hzF ?hzX ?hzN ?hzk1 ?hzk2 ?hzk3 ?hzU ?_; (case hzF => k_asm); (case hzX => k_asm); (case hzN => k_asm); (case hzU => k_updF); (case hzk1 => k_is); (case hzk2 => kernel_rfl); (case hzk3 => k_is); k_whole; intro D' h' l1 F' N'; (have l2 := l1); (try simp only [AllLt, and_true] at l1); (try dsimp only at N'); (try k_sweep)) | (refine' set_excD (P := 82) ?hzk1 ?hzk2 ?hzk3 ?hzk4 ?hzk5 ?hzk6 ?hzk7 ?hzk8 ?hzk10 ?hzk11 ?hzk12 ?hzk13 ?_; (case hzk1 => k_asm); (case hzk2 => k_asm); (case hzk3 => k_asm); (case hzk4 => (refine' inst_exc ?hzN ?hzh1 ?hzh2; (case hzN => k_asm); (case hzh1 => k_mem); (case hzh2 => k_mem))); (case hzk5 => exact rfl); (case hzk6 => k_is); (case hzk7 => kernel_rfl); (case hzk8 => k_is); (case hzk10 => k_get); (case hzk11 => k_put); (case hzk12 => k_upd); (case hzk13 => exact Nat.le_of_ble_eq_true rfl); k_whole; intro h' F' N'; (try k_sweep)))))))
  trivial
theorem tinit95 {w : World} {x T : Addr} {what : Str} {tw : Tok} {px : Addr} {news : Led} (l0 : ∀ p ∈ news, p.1 < T) (l9 : T < x) :
    Ct w 72 [.ref x, .str what tw, .ref px] 12 120 ((x, excO 95 none T) :: (T, tupOf [.str what tw, .ref px]) :: news)
      (fun r l => r = .none ∧ R1 (ι := Addr × Addr × Addr × Tok × Tok) (fun _ => True) (fun i => [i.1]) (fun i => .ref i.1) news (fun i => [(i.1, excO 95 (some i.2.1) i.2.2.1), (i.2.1, excDi w i.2.2.2.1 i.2.2.2.2 (.str what tw) (.ref px))] ++ news) (.ref x) l) := by
  have hn : ∀ p ∈ news, p.1 ≠ x := fun p hp => Nat.ne_of_lt (Nat.lt_trans (l0 p hp) l9)
  have hne : T ≠ x := Nat.ne_of_lt l9
  have ff : Fresh x ((T, tupOf [.str what tw, .ref px]) :: news) := ⟨fun q hq => (List.mem_cons.mp hq).elim (fun e => e ▸ hne) (hn q)⟩
  refine' Ct.of [(Str.ofString "self", .ref x), (Str.ofString "what", .str what tw), (Str.ofString "at", .ref px)] ?ho ?hcd ?hb ?hl ?hco ?hg ?hk ?hc ?bd
  case ho => k_is
  case hcd => k_is
  case hb => exact fun s9 X9 => by first | exact BindsTo.of_eq rfl | exact binds_K X9 rfl (by k_is) rfl rfl rfl
  case hl => exact locs rfl
  case hco => rfl
  case hg => rfl
  case hk => rfl
  case hc => rfl
  case' bd => (intro dp un gd outer A₀ base g L h o k p loose mean mg mb E B F X N T hdp hun he hE; k_fold; have hEO := envOk he (by kernel_rfl); (try have hBO := bindsOk F (by kernel_rfl)); have hMk : KstMark := kstMark)
  k_steps
  exact R1.init2 (_, _, _, _, _) trivial (fresh1 hn) (by assumption) (by assumption) rfl (by kcj_all)
theorem mk95 {w : World} {what : Str} {tw : Tok} {px : Addr} {news : Led} :
    Ct w 95 [.str what tw, .ref px] 13 130 news (R1 (ι := Addr × Addr × Addr × Tok × Tok) (fun _ => True) (fun i => [i.1]) (fun i => .ref i.1) news (fun i => [(i.1, excO 95 (some i.2.1) i.2.2.1), (i.2.1, excDi w i.2.2.2.1 i.2.2.2.2 (.str what tw) (.ref px))] ++ news)) := by
  refine' Ct.makeX (fI := 72) ?a ?b ?c ?d ?e
  case a => kernel_rfl
  case b => k_is
  case c => kernel_rfl
  case d => (show 2 ≤ sizeLine; rw [PySem.sizeLine_eq]; decide)
  case e => exact fun _ _ l1 l2 => tinit95 l1 l2
theorem regC92 : True := by
  k_with "w call ref" => ((fail_if_success k_extra "off C9"); (((k_here; (with_reducible show wpAny _ _ (call (Value.ref 95) _) _ _ _); k_dflt (refine' call0 (mk95 ) ?hzkB ?hzkF ?hzkX ?hzkN ?hzkT ?hzkk ?hzkd ?hzku ?_; k_extra "D com"); k_extra "D fin"))))
  trivial
theorem refused_d {w : World} {what x : Str} {t tb tw : Tok} {b : Nat} {news : Led} (hno : ∀ i : Nat, i < b → ∃ c, AtC x i c ∧ ((⟨#[c]⟩ : Str) == Str.ofString "\n") = false) (hb : b ≤ x.length) (hz : x.length ≤ 5000) :
    Ct w 272 [.str what tw, .str x t, .int b tb] 20 200 news
      (R1 (ι := Addr × Addr × Addr × Addr × Addr × (Tok × Tok × Tok × Tok × Tok × Tok) × Value × Value) (fun _ => True) (fun i => [i.1]) (fun i => .ref i.1) news
        (fun i => [(i.1, excO 95 (some i.2.1) i.2.2.1), (i.2.1, excDi w i.2.2.2.2.2.1.1 i.2.2.2.2.2.1.2.1 (.str what tw) (.ref i.2.2.2.1)), (i.2.2.2.1, instObj 46 i.2.2.2.2.1), (i.2.2.2.2.1, posD w i.2.2.2.2.2.1.2.2.1 i.2.2.2.2.2.1.2.2.2.1 i.2.2.2.2.2.1.2.2.2.2.1 (.int b i.2.2.2.2.2.1.2.2.2.2.2) i.2.2.2.2.2.2.1 i.2.2.2.2.2.2.2)] ++ news)) := by
  refine' Ct.of [(Str.ofString "what", .str what tw), (Str.ofString "text", .str x t), (Str.ofString "offset", .int b tb)] ?ho ?hcd ?hb ?hl ?hco ?hg ?hk ?hc ?bd
  case ho => k_is
  case hcd => k_is
  case hb => exact fun s9 X9 => by first | exact BindsTo.of_eq rfl | exact binds_K X9 rfl (by k_is) rfl rfl rfl
  case hl => exact locs rfl
  case hco => rfl
  case hg => rfl
  case hk => rfl
  case hc => rfl
  case' bd => (intro dp un gd outer A₀ base g L h o k p loose mean mg mb E B F X N T hdp hun he hE; k_fold; have hEO := envOk he (by kernel_rfl); (try have hBO := bindsOk F (by kernel_rfl)); have hMk : KstMark := kstMark)
  k_steps
  exact R1.ret' (_, _, _, _, _, (_, _, _, _, _, _), _, _) trivial (fresh1 fun q hq => hA9a.go q (.tail _ (.tail _ hq))) (by assumption) (by assumption) rfl
end
theorem offC9 : True := by
  k_with "off C9" => skip
  trivial
section
theorem regC101 : True := by
  k_with "w call ref" => ((fail_if_success k_extra "off C10"); (((k_here; (with_reducible show wpAny _ _ (call (Value.ref 131) _) _ _ _); k_dflt (refine' call0 (isDoneF ?hzs0 ?hzs1 ?hzs2 ?hzs3) ?hzkB ?hzkF ?hzkX ?hzkN ?hzkT ?hzkk ?hzkd ?hzku ?_; k_extra "D com"; (case hzs3 => k_extra "D side"); (case hzs2 => k_extra "D side"); (case hzs1 => k_extra "D side"); (case hzs0 => k_extra "D side")); k_extra "D fin"))))
  k_with "w call ref" => ((fail_if_success k_extra "off C10"); (((k_here; (with_reducible show wpAny _ _ (call (Value.ref 189) _) _ _ _); k_dflt (refine' call0 (name_d ?hzs0 ?hzs1 ?hzs2 ?hzs3 ?hzs4) ?hzkB ?hzkF ?hzkX ?hzkN ?hzkT ?hzkk ?hzkd ?hzku ?_; k_extra "D com"; (case hzs4 => k_extra "D side"); (case hzs3 => k_extra "D side"); (case hzs2 => k_extra "D side"); (case hzs1 => k_extra "D side"); (case hzs0 => k_extra "D side")); k_extra "D fin"))))
  k_with "w call ref" => ((fail_if_success k_extra "off C10"); (((k_here; (with_reducible show wpAny _ _ (call (Value.ref 196) _) _ _ _); k_dflt (refine' call1 (fun rest hr => number_d ?hzs0 ?hzs1 ?hzs2 rest hr) ?hzkB ?hzkF ?hzkX ?hzkN ?hzkT ?hzkk ?hzkd ?hzku ?hzkx ?hzkr ?hzkU ?_; k_extra "D com1"; (case hzs2 => k_extra "D side"); (case hzs1 => k_extra "D side"); (case hzs0 => k_extra "D side")); k_extra "D fin"))))
  k_with "w call ref" => ((fail_if_success k_extra "off C10"); (((k_here; (with_reducible show wpAny _ _ (call (Value.ref 160) _) _ _ _); k_dflt (refine' call1 (fun rest hr => skipT ?hzs0 ?hzs1 ?hzs2 rest hr) ?hzkB ?hzkF ?hzkX ?hzkN ?hzkT ?hzkk ?hzkd ?hzku ?hzkx ?hzkr ?hzkU ?_; k_extra "D com1"; (case hzs2 => k_extra "D side"); (case hzs1 => k_extra "D side"); (case hzs0 => k_extra "D side")); k_extra "D fin"))))
  k_with "w call ref" => ((fail_if_success k_extra "off C10"); (((k_here; (with_reducible show wpAny _ _ (call (Value.ref 160) _) _ _ _); k_dflt (refine' call0 (skipF ?hzs0 ?hzs1 ?hzs2 ?hzs3 ?hzs4 ?hzs5) ?hzkB ?hzkF ?hzkX ?hzkN ?hzkT ?hzkk ?hzkd ?hzku ?_; k_extra "D com"; (case hzs5 => k_extra "D side"); (case hzs4 => k_extra "D side"); (case hzs3 => k_extra "D side"); (case hzs2 => k_extra "D side"); (case hzs1 => k_extra "D side"); (case hzs0 => k_extra "D side")); k_extra "D fin"))))
  k_with "w call ref" => ((fail_if_success k_extra "off C10"); (((k_here; (with_reducible show wpAny _ _ (call (Value.ref 279) _) _ _ _); k_dflt (refine' call1 (fun rest hr => scanDollar_d ?hzs0 ?hzs1 rest hr) ?hzkB ?hzkF ?hzkX ?hzkN ?hzkT ?hzkk ?hzkd ?hzku ?hzkx ?hzkr ?hzkU ?_; k_extra "D com1"; (case hzs1 => k_extra "D side"); (case hzs0 => k_extra "D side")); k_extra "D fin"))))
  k_with "w call ref" => ((fail_if_success k_extra "off C10"); (((k_here; (with_reducible show wpAny _ _ (call (Value.ref 182) _) _ _ _); k_dflt (refine' call1 (fun rest hr => skipBlanks_d ?hzs0 ?hzs1 ?hzs2 ?hzs3 ?hzs4 ?hzs5 rest hr) ?hzkB ?hzkF ?hzkX ?hzkN ?hzkT ?hzkk ?hzkd ?hzku ?hzkx ?hzkr ?hzkU ?_; k_extra "D com1"; (case hzs5 => k_extra "D side"); (case hzs4 => k_extra "D side"); (case hzs3 => k_extra "D side"); (case hzs2 => k_extra "D side"); (case hzs1 => k_extra "D side"); (case hzs0 => k_extra "D side")); k_extra "D fin"))))
  trivial
noncomputable abbrev blanks : Str := Str.ofString " \t\n\r"
noncomputable abbrev scanM (x : Str) (tt : Tok) (cx pl : Addr) (u : Str → Option Value) (z : Str) : Option Value :=
  if [Str.ofString "start", Str.ofString "name", Str.ofString "number", Str.ofString "found"].contains z = true then u z else if z = Str.ofString "parts" then some (.ref pl) else if z = Str.ofString "cursor" then some (.ref cx) else List.lookup z [(Str.ofString "text", Value.str x tt)].reverse
noncomputable abbrev scA (dp un : Nat) (gd : Option (List Code)) (sc : Scope) (L : Addr) (outer : List Env) : Around := ktrTop dp un gd (Str.ofString "scan_action") sc L 293 (.ref 292) [] outer
noncomputable abbrev scE (sc : Scope) (L : Addr) : Env := envX (Str.ofString "scan_action") sc L 293 (.ref 292) []
theorem scanM_fr {g h : Heap} {L : Addr} {x : Str} {tt : Tok} {cx pl : Addr} {m : Str → Option Value} (F : Fr g L h m) (hm : ∀ z, z ≠ Str.ofString "start" → z ≠ Str.ofString "name" → z ≠ Str.ofString "number" → z ≠ Str.ofString "found" → m z = if z = Str.ofString "parts" then some (.ref pl) else if z = Str.ofString "cursor" then some (.ref cx) else List.lookup z [(Str.ofString "text", Value.str x tt)].reverse) : Fr g L h (scanM x tt cx pl m) := by
  rw [show scanM x tt cx pl m = m from funext fun z => by
    unfold scanM
    by_cases e : [Str.ofString "start", Str.ofString "name", Str.ofString "number", Str.ofString "found"].contains z = true
    · rw [if_pos e]
    · rw [if_neg e]
      simp only [List.contains_cons, List.contains_nil, Bool.or_false, Bool.or_eq_true, beq_iff_eq, not_or] at e
      exact (hm z e.1 e.2.1 e.2.2.1 e.2.2.2).symm]
  exact F
theorem scanM_out {x : Str} {tt : Tok} {cx pl : Addr} {u : Str → Option Value} {z : Str} (h1 : z ≠ Str.ofString "start") (h2 : z ≠ Str.ofString "name") (h3 : z ≠ Str.ofString "number") (h4 : z ≠ Str.ofString "found") : scanM x tt cx pl u z = if z = Str.ofString "parts" then some (.ref pl) else if z = Str.ofString "cursor" then some (.ref cx) else List.lookup z [(Str.ofString "text", Value.str x tt)].reverse := by
  unfold scanM
  rw [if_neg]
  simp [h1, h2, h3, h4]
theorem scanT1 {w : World} {cx cd pl : Addr} {k1 k2 t ta tt : Tok} {x : Str} {a : Int} {xs : List Value} {n : Nat} {tl : Led}
    {dp un : Nat} {gd : Option (List Code)} {outer : List Env} {A₀ : Around} {base g : Heap} {L : Addr} {h : Heap} {o : Shared} {k : Nat} {p : Program} {loose : List Str} {mean : ExcName → Option Value} {mg mb : Str → Option Value} {E : Value → Shared → Prop} {Q : Flow → Shared → Prop} {P : Shared → Prop} {u : Str → Option Value}
    {sc : Scope} {bd : List Stmt} (e1 : scopeAt w 293 = sc) (e2 : stmtsAt w 293 = bd) (hdp : dp + 20 ≤ recursionLimit) (hun : un + 200 < cLine + 3)
    (h36 : AtC x a 36) (h36' : AtC x (a + 1) 36) (h32 : AtC x (a + 1 + 1) 32) (h61 : AtC x (a + 1 + 1 + 1) 61) (hz : x.length ≤ 5000) (hxs : xs.length ≤ 9)
    (fc : Fresh cd tl) (fl : Fresh pl tl)
    (B : Below A₀ base outer g) (F : Fr g L h (scanM x tt cx pl u)) (X : (Mine.K w.params).In g) (N : News g L h ((pl, W.listOf xs.toArray n) :: (cd, curD w k1 k2 x t a ta) :: (cx, instObj 234 cd) :: tl)) (T : Top p loose mean mg mb g)
    (H : ∀ (i : Addr × Addr × Tok × Tok × Tok × Tok × Tok) h' tk' u', Fresh cd ((i.1, instObj 261 i.2.1) :: (i.2.1, partD w i.2.2.1 i.2.2.2.1 i.2.2.2.2.1 (.str (Str.ofString "own") i.2.2.2.2.2.1) .none (.int a ta)) :: tl) → Fresh pl ((i.1, instObj 261 i.2.1) :: (i.2.1, partD w i.2.2.1 i.2.2.2.1 i.2.2.2.2.1 (.str (Str.ofString "own") i.2.2.2.2.2.1) .none (.int a ta)) :: tl) →
      Fr g L h' (scanM x tt cx pl u') → News g L h' ((pl, W.listOf (xs ++ [Value.ref i.1]).toArray (n + 1)) :: (cd, curD w k1 k2 x t (a + 1 + 1 + 1) i.2.2.2.2.2.2) :: (cx, instObj 234 cd) :: (i.1, instObj 261 i.2.1) :: (i.2.1, partD w i.2.2.1 i.2.2.2.1 i.2.2.2.2.1 (.str (Str.ofString "own") i.2.2.2.2.2.1) .none (.int a ta)) :: tl) → P (SH o h' tk')) :
    WT PySem.Challenge.rw_qd0072_01.row.prog w (scA dp un gd sc L outer) (scE sc L) (whTest (bd.drop 2)) (whBody (bd.drop 2)) Q E P (SH o h k) := by
  have he : FnEnv (scE sc L) L := ⟨_, _, _, _, _, rfl, by rw [← e1]; rfl⟩
  refine' with_lit (w := w) (f := 293) ?ho ?kk
  case ho => k_is
  case' kk => intro f1 f2
  obtain rfl := e1.symm.trans f1
  obtain rfl := e2.symm.trans f2
  clear f1 f2 e1 e2
  dsimp only [whTest, whBody, List.drop]
  have hMk : KstMark := kstMark
  have h0 := h36.lo
  have hlt := h36.hi
  have hn1 : inS nameSigns 36 = false := by decide +kernel
  have hn2 : inS figs 36 = false := by decide +kernel
  have hb : (Txt.slice x (some a) (some (a + ((Str.ofString "\"").length : Int))) == Str.ofString "\"") = false := (starts1 (d := 34) h36 (by decide +kernel)).trans (by decide)
  have wd : Str.ofString "$" = (⟨#[36]⟩ : Str) := by decide +kernel
  have hl5 : (Str.ofString "\"").length ≤ 5 := by decide +kernel
  have hend : (x.length : Int) ≤ a + 1 + 1 + ((1 : Nat) : Int) ∨ ∃ d, AtC x (a + 1 + 1 + ((1 : Nat) : Int)) d ∧ inS blanks d = false := .inr ⟨61, h61, by decide +kernel⟩
  have hall : ∀ i, i < 1 → AtC x (a + 1 + 1 + (i : Nat)) 32 := fun i hi => by
    obtain rfl : i = 0 := by omega
    rw [show a + 1 + 1 + ((0 : Nat) : Int) = a + 1 + 1 by omega]
    exact h32
  have hin : inS blanks 32 = true := by decide +kernel
  have hj : a + 1 + 1 + ((1 : Nat) : Int) ≤ x.length := Int.le_of_lt h61.hi
  have hz2 := size_arr (xs := xs) hxs (by decide)
  have h1 : (0 : Int) ≤ a + 1 + 1 := by omega
  refine ⟨?_⟩
  k_steps
  rw [← push_arr, show a + 1 + 1 + ((1 : Nat) : Int) = a + 1 + 1 + 1 from rfl] at N9
  rename_i pv _ _ _ _
  exact H (pv.1, pv.2.1, pv.2.2.1, pv.2.2.2.1, pv.2.2.2.2.1, pv.2.2.2.2.2.1, i9) _ _ _ (Fresh.add (hA9a.en (by k_mem)) (Fresh.add (hA9b.en (by k_mem)) fc)) (Fresh.add (hA9a.en (by k_mem)) (Fresh.add (hA9b.en (by k_mem)) fl)) (scanM_fr F9 fun z h1 h2 h3 h4 => by rw [if_neg h3, if_neg h2, if_neg h1, scanM_out h1 h2 h3 h4]) (kst_newsOf N9 (by kcj_all))
end
theorem offC10 : True := by
  k_with "off C10" => skip
  trivial
section
theorem regC111 : True := by
  k_with "w call ref" => ((fail_if_success k_extra "off C11"); (((k_here; (with_reducible show wpAny _ _ (call (Value.ref 131) _) _ _ _); k_dflt (refine' call0 (isDoneF ?hzs0 ?hzs1 ?hzs2 ?hzs3) ?hzkB ?hzkF ?hzkX ?hzkN ?hzkT ?hzkk ?hzkd ?hzku ?_; k_extra "D com"; (case hzs3 => k_extra "D side"); (case hzs2 => k_extra "D side"); (case hzs1 => k_extra "D side"); (case hzs0 => k_extra "D side")); k_extra "D fin"))))
  k_with "w call ref" => ((fail_if_success k_extra "off C11"); (((k_here; (with_reducible show wpAny _ _ (call (Value.ref 189) _) _ _ _); k_dflt (refine' call0 (name_d ?hzs0 ?hzs1 ?hzs2 ?hzs3 ?hzs4) ?hzkB ?hzkF ?hzkX ?hzkN ?hzkT ?hzkk ?hzkd ?hzku ?_; k_extra "D com"; (case hzs4 => k_extra "D side"); (case hzs3 => k_extra "D side"); (case hzs2 => k_extra "D side"); (case hzs1 => k_extra "D side"); (case hzs0 => k_extra "D side")); k_extra "D fin"))))
  k_with "w call ref" => ((fail_if_success k_extra "off C11"); (((k_here; (with_reducible show wpAny _ _ (call (Value.ref 196) _) _ _ _); k_dflt (refine' call1 (fun rest hr => number_d ?hzs0 ?hzs1 ?hzs2 rest hr) ?hzkB ?hzkF ?hzkX ?hzkN ?hzkT ?hzkk ?hzkd ?hzku ?hzkx ?hzkr ?hzkU ?_; k_extra "D com1"; (case hzs2 => k_extra "D side"); (case hzs1 => k_extra "D side"); (case hzs0 => k_extra "D side")); k_extra "D fin"))))
  k_with "w call ref" => ((fail_if_success k_extra "off C11"); (((k_here; (with_reducible show wpAny _ _ (call (Value.ref 160) _) _ _ _); k_dflt (refine' call0 (skipF ?hzs0 ?hzs1 ?hzs2 ?hzs3 ?hzs4 ?hzs5) ?hzkB ?hzkF ?hzkX ?hzkN ?hzkT ?hzkk ?hzkd ?hzku ?_; k_extra "D com"; (case hzs5 => k_extra "D side"); (case hzs4 => k_extra "D side"); (case hzs3 => k_extra "D side"); (case hzs2 => k_extra "D side"); (case hzs1 => k_extra "D side"); (case hzs0 => k_extra "D side")); k_extra "D fin"))))
  k_with "w call ref" => ((fail_if_success k_extra "off C11"); (((k_here; (with_reducible show wpAny _ _ (call (Value.ref 286) _) _ _ _); k_dflt (refine' call1 (fun rest hr => scanSign_d ?hzs0 ?hzs1 ?hzs2 rest hr) ?hzkB ?hzkF ?hzkX ?hzkN ?hzkT ?hzkk ?hzkd ?hzku ?hzkx ?hzkr ?hzkU ?_; k_extra "D com1"; (case hzs2 => k_extra "D side"); (case hzs1 => k_extra "D side"); (case hzs0 => k_extra "D side")); k_extra "D fin"))))
  k_with "w call ref" => ((fail_if_success k_extra "off C11"); (((k_here; (with_reducible show wpAny _ _ (call (Value.ref 182) _) _ _ _); k_dflt (refine' call1 (fun rest hr => skipBlanks_d ?hzs0 ?hzs1 ?hzs2 ?hzs3 ?hzs4 ?hzs5 rest hr) ?hzkB ?hzkF ?hzkX ?hzkN ?hzkT ?hzkk ?hzkd ?hzku ?hzkx ?hzkr ?hzkU ?_; k_extra "D com1"; (case hzs5 => k_extra "D side"); (case hzs4 => k_extra "D side"); (case hzs3 => k_extra "D side"); (case hzs2 => k_extra "D side"); (case hzs1 => k_extra "D side"); (case hzs0 => k_extra "D side")); k_extra "D fin"))))
  trivial
theorem scanT2 {w : World} {cx cd pl : Addr} {k1 k2 t ta tt : Tok} {x : Str} {a : Int} {xs : List Value} {n : Nat} {tl : Led}
    {dp un : Nat} {gd : Option (List Code)} {outer : List Env} {A₀ : Around} {base g : Heap} {L : Addr} {h : Heap} {o : Shared} {k : Nat} {p : Program} {loose : List Str} {mean : ExcName → Option Value} {mg mb : Str → Option Value} {E : Value → Shared → Prop} {Q : Flow → Shared → Prop} {P : Shared → Prop} {u : Str → Option Value}
    {sc : Scope} {bd : List Stmt} (e1 : scopeAt w 293 = sc) (e2 : stmtsAt w 293 = bd) (hdp : dp + 20 ≤ recursionLimit) (hun : un + 200 < cLine + 3)
    (h61 : AtC x a 61) (h32 : AtC x (a + 1) 32) (h34 : AtC x (a + 1 + 1) 34) (hz : x.length ≤ 5000) (hxs : xs.length ≤ 9)
    (fc : Fresh cd tl) (fl : Fresh pl tl)
    (B : Below A₀ base outer g) (F : Fr g L h (scanM x tt cx pl u)) (X : (Mine.K w.params).In g) (N : News g L h ((pl, W.listOf xs.toArray n) :: (cd, curD w k1 k2 x t a ta) :: (cx, instObj 234 cd) :: tl)) (T : Top p loose mean mg mb g)
    (H : ∀ (i : Addr × Addr × Tok × Tok × Tok × Tok × Tok × Tok) h' tk' u', Fresh cd ((i.1, instObj 261 i.2.1) :: (i.2.1, partD w i.2.2.1 i.2.2.2.1 i.2.2.2.2.1 (.str (Str.ofString "sign") i.2.2.2.2.2.1) (.str (Str.ofString "=") i.2.2.2.2.2.2.1) (.int a ta)) :: tl) → Fresh pl ((i.1, instObj 261 i.2.1) :: (i.2.1, partD w i.2.2.1 i.2.2.2.1 i.2.2.2.2.1 (.str (Str.ofString "sign") i.2.2.2.2.2.1) (.str (Str.ofString "=") i.2.2.2.2.2.2.1) (.int a ta)) :: tl) →
      Fr g L h' (scanM x tt cx pl u') → News g L h' ((pl, W.listOf (xs ++ [Value.ref i.1]).toArray (n + 1)) :: (cd, curD w k1 k2 x t (a + 1 + 1) i.2.2.2.2.2.2.2) :: (cx, instObj 234 cd) :: (i.1, instObj 261 i.2.1) :: (i.2.1, partD w i.2.2.1 i.2.2.2.1 i.2.2.2.2.1 (.str (Str.ofString "sign") i.2.2.2.2.2.1) (.str (Str.ofString "=") i.2.2.2.2.2.2.1) (.int a ta)) :: tl) → P (SH o h' tk')) :
    WT PySem.Challenge.rw_qd0072_01.row.prog w (scA dp un gd sc L outer) (scE sc L) (whTest (bd.drop 2)) (whBody (bd.drop 2)) Q E P (SH o h k) := by
  have he : FnEnv (scE sc L) L := ⟨_, _, _, _, _, rfl, by rw [← e1]; rfl⟩
  refine' with_lit (w := w) (f := 293) ?ho ?kk
  case ho => k_is
  case' kk => intro f1 f2
  obtain rfl := e1.symm.trans f1
  obtain rfl := e2.symm.trans f2
  clear f1 f2 e1 e2
  dsimp only [whTest, whBody, List.drop]
  have hMk : KstMark := kstMark
  have h0 := h61.lo
  have hlt := h61.hi
  have hn1 : inS nameSigns 61 = false := by decide +kernel
  have hn2 : inS figs 61 = false := by decide +kernel
  have hb : (Txt.slice x (some a) (some (a + ((Str.ofString "\"").length : Int))) == Str.ofString "\"") = false := (starts1 (d := 34) h61 (by decide +kernel)).trans (by decide)
  have hb2 : (Txt.slice x (some a) (some (a + ((Str.ofString "$").length : Int))) == Str.ofString "$") = false := (starts1 (d := 36) h61 (by decide +kernel)).trans (by decide)
  have hl5 : (Str.ofString "\"").length ≤ 5 := by decide +kernel
  have hl6 : (Str.ofString "$").length ≤ 5 := by decide +kernel
  have hend : (x.length : Int) ≤ a + 1 + ((1 : Nat) : Int) ∨ ∃ d, AtC x (a + 1 + ((1 : Nat) : Int)) d ∧ inS blanks d = false := .inr ⟨34, h34, by decide +kernel⟩
  have hall : ∀ i, i < 1 → AtC x (a + 1 + (i : Nat)) 32 := fun i hi => by
    obtain rfl : i = 0 := by omega
    rw [show a + 1 + ((0 : Nat) : Int) = a + 1 by omega]
    exact h32
  have hin : inS blanks 32 = true := by decide +kernel
  have hj : a + 1 + ((1 : Nat) : Int) ≤ x.length := Int.le_of_lt h34.hi
  have hz2 := size_arr (xs := xs) hxs (by decide)
  have h1 : (0 : Int) ≤ a + 1 := by omega
  refine ⟨?_⟩
  k_steps
  rw [← push_arr, show a + 1 + ((1 : Nat) : Int) = a + 1 + 1 from rfl] at N9
  rename_i pv _ _ _ _
  exact H (pv.1, pv.2.1, pv.2.2.1, pv.2.2.2.1, pv.2.2.2.2.1, pv.2.2.2.2.2.1, pv.2.2.2.2.2.2.1, i9) _ _ _ (Fresh.add (hA9a.en (by k_mem)) (Fresh.add (hA9b.en (by k_mem)) fc)) (Fresh.add (hA9a.en (by k_mem)) (Fresh.add (hA9b.en (by k_mem)) fl)) (scanM_fr F9 fun z h1 h2 h3 h4 => by rw [if_neg h3, if_neg h2, if_neg h1, scanM_out h1 h2 h3 h4]) (kst_newsOf N9 (by kcj_all))
end
theorem offC11 : True := by
  k_with "off C11" => skip
  trivial
section
theorem quoted_r {w : World} {cx cd : Addr} {k1 k2 t ta te : Tok} {x r : Str} {a e : Int} {j : Nat} {ws : List Nat} (hr9 : (⟨(List.replicate j 98 ++ ws).toArray⟩ : Str) = r) (hj : j ≤ 2001) (hz : x.length ≤ 5000) (hsh : Shown x (a + (j : Int)) ws e) (hall : ∀ i, i < j → AtC x (a + (i : Nat)) 98) (_h0 : 0 ≤ a) (rest : Led) (hr : ∀ p ∈ rest, p.1 ≠ cd) :
    Ct w 231 [.ref cx, .str (Str.ofString "\"") te] 14 140 ((cd, curD w k1 k2 x t a ta) :: ([(cx, instObj 234 cd)] ++ rest))
      (R1 (ι := Tok × Tok) (fun _ => True) (fun _ => []) (fun i => .str r i.1) ((cd, curD w k1 k2 x t a ta) :: ([(cx, instObj 234 cd)] ++ rest)) (fun i => [] ++ (cd, curD w k1 k2 x t (a + (j : Int) + e) i.2) :: ([(cx, instObj 234 cd)] ++ rest))) := by
  subst hr9
  exact quoted_d hsh hall hj hz rest hr
theorem regC121 : True := by
  k_with "w call ref" => ((fail_if_success k_extra "off C12"); (((k_here; (with_reducible show wpAny _ _ (call (Value.ref 131) _) _ _ _); k_dflt (refine' call0 (isDoneF ?hzs0 ?hzs1 ?hzs2 ?hzs3) ?hzkB ?hzkF ?hzkX ?hzkN ?hzkT ?hzkk ?hzkd ?hzku ?_; k_extra "D com"; (case hzs3 => k_extra "D side"); (case hzs2 => k_extra "D side"); (case hzs1 => k_extra "D side"); (case hzs0 => k_extra "D side")); k_extra "D fin"))))
  k_with "w call ref" => ((fail_if_success k_extra "off C12"); (((k_here; (with_reducible show wpAny _ _ (call (Value.ref 189) _) _ _ _); k_dflt (refine' call0 (name_d ?hzs0 ?hzs1 ?hzs2 ?hzs3 ?hzs4) ?hzkB ?hzkF ?hzkX ?hzkN ?hzkT ?hzkk ?hzkd ?hzku ?_; k_extra "D com"; (case hzs4 => k_extra "D side"); (case hzs3 => k_extra "D side"); (case hzs2 => k_extra "D side"); (case hzs1 => k_extra "D side"); (case hzs0 => k_extra "D side")); k_extra "D fin"))))
  k_with "w call ref" => ((fail_if_success k_extra "off C12"); (((k_here; (with_reducible show wpAny _ _ (call (Value.ref 196) _) _ _ _); k_dflt (refine' call1 (fun rest hr => number_d ?hzs0 ?hzs1 ?hzs2 rest hr) ?hzkB ?hzkF ?hzkX ?hzkN ?hzkT ?hzkk ?hzkd ?hzku ?hzkx ?hzkr ?hzkU ?_; k_extra "D com1"; (case hzs2 => k_extra "D side"); (case hzs1 => k_extra "D side"); (case hzs0 => k_extra "D side")); k_extra "D fin"))))
  k_with "w call ref" => ((fail_if_success k_extra "off C12"); (((k_here; (with_reducible show wpAny _ _ (call (Value.ref 160) _) _ _ _); k_dflt (refine' call1 (fun rest hr => skipT ?hzs0 ?hzs1 ?hzs2 rest hr) ?hzkB ?hzkF ?hzkX ?hzkN ?hzkT ?hzkk ?hzkd ?hzku ?hzkx ?hzkr ?hzkU ?_; k_extra "D com1"; (case hzs2 => k_extra "D side"); (case hzs1 => k_extra "D side"); (case hzs0 => k_extra "D side")); k_extra "D fin"))))
  k_with "w call ref" => ((fail_if_success k_extra "off C12"); (((k_here; (with_reducible show wpAny _ _ (call (Value.ref 231) _) _ _ _); k_dflt (refine' call1 (fun rest hr => quoted_r ?hzs0 ?hzs1 ?hzs2 ?hzs3 ?hzs4 ?hzs5 rest hr) ?hzkB ?hzkF ?hzkX ?hzkN ?hzkT ?hzkk ?hzkd ?hzku ?hzkx ?hzkr ?hzkU ?_; k_extra "D com1"; (case hzs5 => k_extra "D side"); (case hzs4 => k_extra "D side"); (case hzs3 => k_extra "D side"); (case hzs2 => k_extra "D side"); (case hzs1 => k_extra "D side"); (case hzs0 => k_extra "D side")); k_extra "D fin"))))
  k_with "w call ref" => ((fail_if_success k_extra "off C12"); (((k_here; (with_reducible show wpAny _ _ (call (Value.ref 261) _) _ _ _); k_dflt (refine' call0 (mkPart_d ) ?hzkB ?hzkF ?hzkX ?hzkN ?hzkT ?hzkk ?hzkd ?hzku ?_; k_extra "D com"); k_extra "D fin"))))
  k_with "w call ref" => ((fail_if_success k_extra "off C12"); (((k_here; (with_reducible show wpAny _ _ (call (Value.ref 182) _) _ _ _); k_dflt (refine' call1 (fun rest hr => skipBlanks_d ?hzs0 ?hzs1 ?hzs2 ?hzs3 ?hzs4 ?hzs5 rest hr) ?hzkB ?hzkF ?hzkX ?hzkN ?hzkT ?hzkk ?hzkd ?hzku ?hzkx ?hzkr ?hzkU ?_; k_extra "D com1"; (case hzs5 => k_extra "D side"); (case hzs4 => k_extra "D side"); (case hzs3 => k_extra "D side"); (case hzs2 => k_extra "D side"); (case hzs1 => k_extra "D side"); (case hzs0 => k_extra "D side")); k_extra "D fin"))))
  trivial
theorem scanT3 {w : World} {cx cd pl : Addr} {k1 k2 t ta tt : Tok} {x : Str} {a : Int} {xs : List Value} {n j : Nat} {e : Int} {ws : List Nat} {r : Str} {tl : Led}
    {dp un : Nat} {gd : Option (List Code)} {outer : List Env} {A₀ : Around} {base g : Heap} {L : Addr} {h : Heap} {o : Shared} {k : Nat} {p : Program} {loose : List Str} {mean : ExcName → Option Value} {mg mb : Str → Option Value} {E : Value → Shared → Prop} {Q : Flow → Shared → Prop} {P : Shared → Prop} {u : Str → Option Value}
    {sc : Scope} {bd : List Stmt} (e1 : scopeAt w 293 = sc) (e2 : stmtsAt w 293 = bd) (hdp : dp + 20 ≤ recursionLimit) (hun : un + 200 < cLine + 3)
    (h34 : AtC x a 34) (hr9 : (⟨(List.replicate j 98 ++ ws).toArray⟩ : Str) = r) (hjj : j ≤ 2001) (hrl : r.length ≤ 2000) (hsh : Shown x (a + 1 + (j : Int)) ws e) (hal : ∀ i, i < j → AtC x (a + 1 + (i : Nat)) 98) (hxe : (x.length : Int) = a + 1 + (j : Int) + e) (hz : x.length ≤ 5000) (hxs : xs.length ≤ 9)
    (fc : Fresh cd tl) (fl : Fresh pl tl)
    (B : Below A₀ base outer g) (F : Fr g L h (scanM x tt cx pl u)) (X : (Mine.K w.params).In g) (N : News g L h ((pl, W.listOf xs.toArray n) :: (cd, curD w k1 k2 x t a ta) :: (cx, instObj 234 cd) :: tl)) (T : Top p loose mean mg mb g)
    (H : ∀ (i : Addr × Addr × Tok × Tok × Tok × Tok × Tok × Tok) h' tk' u', Fresh cd ((i.1, instObj 261 i.2.1) :: (i.2.1, partD w i.2.2.1 i.2.2.2.1 i.2.2.2.2.1 (.str (Str.ofString "text") i.2.2.2.2.2.1) (.str r i.2.2.2.2.2.2.1) (.int a ta)) :: tl) → Fresh pl ((i.1, instObj 261 i.2.1) :: (i.2.1, partD w i.2.2.1 i.2.2.2.1 i.2.2.2.2.1 (.str (Str.ofString "text") i.2.2.2.2.2.1) (.str r i.2.2.2.2.2.2.1) (.int a ta)) :: tl) →
      Fr g L h' (scanM x tt cx pl u') → News g L h' ((pl, W.listOf (xs ++ [Value.ref i.1]).toArray (n + 1)) :: (cd, curD w k1 k2 x t (a + 1 + (j : Int) + e) i.2.2.2.2.2.2.2) :: (cx, instObj 234 cd) :: (i.1, instObj 261 i.2.1) :: (i.2.1, partD w i.2.2.1 i.2.2.2.1 i.2.2.2.2.1 (.str (Str.ofString "text") i.2.2.2.2.2.1) (.str r i.2.2.2.2.2.2.1) (.int a ta)) :: tl) → P (SH o h' tk')) :
    WT PySem.Challenge.rw_qd0072_01.row.prog w (scA dp un gd sc L outer) (scE sc L) (whTest (bd.drop 2)) (whBody (bd.drop 2)) Q E P (SH o h k) := by
  have he : FnEnv (scE sc L) L := ⟨_, _, _, _, _, rfl, by rw [← e1]; rfl⟩
  refine' with_lit (w := w) (f := 293) ?ho ?kk
  case ho => k_is
  case' kk => intro f1 f2
  obtain rfl := e1.symm.trans f1
  obtain rfl := e2.symm.trans f2
  clear f1 f2 e1 e2
  dsimp only [whTest, whBody, List.drop]
  have hMk : KstMark := kstMark
  have h0 := h34.lo
  have hlt := h34.hi
  have hn1 : inS nameSigns 34 = false := by decide +kernel
  have hn2 : inS figs 34 = false := by decide +kernel
  have wq : Str.ofString "\"" = (⟨#[34]⟩ : Str) := by decide +kernel
  have hrl5 : r.length ≤ 5000 := by omega
  have hend : (x.length : Int) ≤ a + 1 + (j : Int) + e + ((0 : Nat) : Int) ∨ ∃ d, AtC x (a + 1 + (j : Int) + e + ((0 : Nat) : Int)) d ∧ inS blanks d = false := .inl (by omega)
  have hall : ∀ i, i < 0 → AtC x (a + 1 + (j : Int) + e + (i : Nat)) 32 := fun i hi => absurd hi (Nat.not_lt_zero _)
  have hin : inS blanks 32 = true := by decide +kernel
  have hj : a + 1 + (j : Int) + e + ((0 : Nat) : Int) ≤ x.length := by omega
  have hz2 := size_arr (xs := xs) hxs (by decide)
  have h1 : (0 : Int) ≤ a + 1 := by omega
  have h2 : (0 : Int) ≤ a + 1 + (j : Int) + e := by omega
  refine ⟨?_⟩
  k_steps
  rw [← push_arr, show a + 1 + (j : Int) + e + ((0 : Nat) : Int) = a + 1 + (j : Int) + e by omega] at N9
  rename_i qv _ _ _ _ pv _ _ _ _
  exact H (pv.1, pv.2.1, pv.2.2.1, pv.2.2.2.1, pv.2.2.2.2, tk + 1 + 1, qv.1, i9) _ _ _ (Fresh.add (hA9a.en (by k_mem)) (Fresh.add (hA9b.en (by k_mem)) fc)) (Fresh.add (hA9a.en (by k_mem)) (Fresh.add (hA9b.en (by k_mem)) fl)) (scanM_fr F9 fun z h1 h2 h3 h4 => by rw [if_neg h4, if_neg h3, if_neg h2, if_neg h1, scanM_out h1 h2 h3 h4]) (news_rot N9)
end
theorem offC12 : True := by
  k_with "off C12" => skip
  trivial
section
theorem regC131 : True := by
  k_with "w call ref" => ((fail_if_success k_extra "off C13"); (((k_here; (with_reducible show wpAny _ _ (call (Value.ref 131) _) _ _ _); k_dflt (refine' call0 (isDoneF ?hzs0 ?hzs1 ?hzs2 ?hzs3) ?hzkB ?hzkF ?hzkX ?hzkN ?hzkT ?hzkk ?hzkd ?hzku ?_; k_extra "D com"; (case hzs3 => k_extra "D side"); (case hzs2 => k_extra "D side"); (case hzs1 => k_extra "D side"); (case hzs0 => k_extra "D side")); k_extra "D fin"))))
  k_with "w call ref" => ((fail_if_success k_extra "off C13"); (((k_here; (with_reducible show wpAny _ _ (call (Value.ref 189) _) _ _ _); k_dflt (refine' call0 (name_d ?hzs0 ?hzs1 ?hzs2 ?hzs3 ?hzs4) ?hzkB ?hzkF ?hzkX ?hzkN ?hzkT ?hzkk ?hzkd ?hzku ?_; k_extra "D com"; (case hzs4 => k_extra "D side"); (case hzs3 => k_extra "D side"); (case hzs2 => k_extra "D side"); (case hzs1 => k_extra "D side"); (case hzs0 => k_extra "D side")); k_extra "D fin"))))
  k_with "w call ref" => ((fail_if_success k_extra "off C13"); (((k_here; (with_reducible show wpAny _ _ (call (Value.ref 196) _) _ _ _); k_dflt (refine' call1 (fun rest hr => number_d ?hzs0 ?hzs1 ?hzs2 rest hr) ?hzkB ?hzkF ?hzkX ?hzkN ?hzkT ?hzkk ?hzkd ?hzku ?hzkx ?hzkr ?hzkU ?_; k_extra "D com1"; (case hzs2 => k_extra "D side"); (case hzs1 => k_extra "D side"); (case hzs0 => k_extra "D side")); k_extra "D fin"))))
  k_with "w call ref" => ((fail_if_success k_extra "off C13"); (((k_here; (with_reducible show wpAny _ _ (call (Value.ref 160) _) _ _ _); k_dflt (refine' call1 (fun rest hr => skipT ?hzs0 ?hzs1 ?hzs2 rest hr) ?hzkB ?hzkF ?hzkX ?hzkN ?hzkT ?hzkk ?hzkd ?hzku ?hzkx ?hzkr ?hzkU ?_; k_extra "D com1"; (case hzs2 => k_extra "D side"); (case hzs1 => k_extra "D side"); (case hzs0 => k_extra "D side")); k_extra "D fin"))))
  k_with "w call ref" => ((fail_if_success k_extra "off C13"); (((k_here; (with_reducible show wpAny _ _ (call (Value.ref 231) _) _ _ _); k_dflt (refine' call1 (fun rest hr => quoted_r ?hzs0 ?hzs1 ?hzs2 ?hzs3 ?hzs4 ?hzs5 rest hr) ?hzkB ?hzkF ?hzkX ?hzkN ?hzkT ?hzkk ?hzkd ?hzku ?hzkx ?hzkr ?hzkU ?_; k_extra "D com1"; (case hzs5 => k_extra "D side"); (case hzs4 => k_extra "D side"); (case hzs3 => k_extra "D side"); (case hzs2 => k_extra "D side"); (case hzs1 => k_extra "D side"); (case hzs0 => k_extra "D side")); k_extra "D fin"))))
  k_with "w call ref" => ((fail_if_success k_extra "off C13"); (((k_here; (with_reducible show wpAny _ _ (call (Value.ref 272) _) _ _ _); k_dflt (refine' call0 (refused_d ?hzs0 ?hzs1 ?hzs2) ?hzkB ?hzkF ?hzkX ?hzkN ?hzkT ?hzkk ?hzkd ?hzku ?_; k_extra "D com"; (case hzs2 => k_extra "D side"); (case hzs1 => k_extra "D side"); (case hzs0 => k_extra "D side")); k_extra "D fin"))))
  k_with "w exec Raise some none" => ((fail_if_success k_extra "off C13"); (((k_here; k_dflt (refine' raise_stmt (K := Mine.K _) (C := 95) (P := 82) ?hzhh ?hzX ?hzhk ?_; (case hzhh => rfl); (case hzX => k_asm); (case hzhk => kernel_rfl); k_whole)))))
  trivial
noncomputable abbrev KI : Type := Str × Tok × (Addr × Addr × Addr × Addr × Addr × (Tok × Tok × Tok × Tok × Tok × Tok) × Value × Value)
/-- what an ActionError carries: its dict, its place -/
noncomputable abbrev kpE (w : World) (b : Nat) (i : KI) (_e D : Addr) : Led := [(D, excDi w i.2.2.2.2.2.2.2.1.1 i.2.2.2.2.2.2.2.1.2.1 (.str i.1 i.2.1) (.ref i.2.2.2.2.2.1)), (i.2.2.2.2.2.1, instObj 46 i.2.2.2.2.2.2.1), (i.2.2.2.2.2.2.1, posD w i.2.2.2.2.2.2.2.1.2.2.1 i.2.2.2.2.2.2.2.1.2.2.2.1 i.2.2.2.2.2.2.2.1.2.2.2.2.1 (.int b i.2.2.2.2.2.2.2.1.2.2.2.2.2) i.2.2.2.2.2.2.2.2.1 i.2.2.2.2.2.2.2.2.2), (780, tabObj #[])]
theorem ne_cls {g h : Heap} {L : Addr} {led : Led} {q1 q2 : Addr × Obj} (N : News g L h led) (m1 : q1 ∈ led) (m2 : q2 ∈ led) (hne : q1.2.cls ≠ q2.2.cls) : q1.1 ≠ q2.1 := fun e => hne (by
  have a := (N _ m1).1
  have b := (N _ m2).1
  rw [e] at a
  exact congrArg Obj.cls (Option.some.inj (a.symm.trans b)))
theorem scanT3x {w : World} {cx cd pl : Addr} {k1 k2 t ta tt : Tok} {x : Str} {b : Nat} {xs : List Value} {n j : Nat} {e : Int} {ws : List Nat} {r : Str} {tl : Led}
    {dp un : Nat} {gd : Option (List Code)} {outer : List Env} {A₀ : Around} {base g : Heap} {L : Addr} {h : Heap} {o : Shared} {k : Nat} {p : Program} {loose : List Str} {mean : ExcName → Option Value} {mg mb : Str → Option Value} {E : Value → Shared → Prop} {Q : Flow → Shared → Prop} {P : Shared → Prop} {u : Str → Option Value}
    {sc : Scope} {bd : List Stmt} (e1 : scopeAt w 293 = sc) (e2 : stmtsAt w 293 = bd) (hdp : dp + 30 ≤ recursionLimit) (hun : un + 300 < cLine + 3)
    (h34 : AtC x (b : Int) 34) (hr9 : (⟨(List.replicate j 98 ++ ws).toArray⟩ : Str) = r) (hjj : j ≤ 2001) (hrl : 2000 < r.length) (hrm : r.length ≤ 2002) (hno : ∀ i : Nat, i < b → ∃ c, AtC x i c ∧ ((⟨#[c]⟩ : Str) == Str.ofString "\n") = false) (hsh : Shown x ((b : Int) + 1 + (j : Int)) ws e) (hal : ∀ i, i < j → AtC x ((b : Int) + 1 + (i : Nat)) 98) (hxe : (x.length : Int) = (b : Int) + 1 + (j : Int) + e) (hz : x.length ≤ 5000) (hxs : xs.length ≤ 9)
    (fc : Fresh cd tl) (fl : Fresh pl tl) (hkt : ((780, tabObj #[]) : Addr × Obj) ∈ tl)
    (B : Below A₀ base outer g) (F : Fr g L h (scanM x tt cx pl u)) (X : (Mine.K w.params).In g) (N : News g L h ((pl, W.listOf xs.toArray n) :: (cd, curD w k1 k2 x t (b : Int) ta) :: (cx, instObj 234 cd) :: tl)) (T : Top p loose mean mg mb g)
    (OX : OutX base g L (scE sc L :: outer) o 95 (kpE w b) E) :
    WT PySem.Challenge.rw_qd0072_01.row.prog w (scA dp un gd sc L outer) (scE sc L) (whTest (bd.drop 2)) (whBody (bd.drop 2)) Q E P (SH o h k) := by
  have he : FnEnv (scE sc L) L := ⟨_, _, _, _, _, rfl, by rw [← e1]; rfl⟩
  refine' with_lit (w := w) (f := 293) ?ho ?kk
  case ho => k_is
  case' kk => intro f1 f2
  obtain rfl := e1.symm.trans f1
  obtain rfl := e2.symm.trans f2
  clear f1 f2 e1 e2
  dsimp only [whTest, whBody, List.drop]
  have hMk : KstMark := kstMark
  have h0 := h34.lo
  have hlt := h34.hi
  have hn1 : inS nameSigns 34 = false := by decide +kernel
  have hn2 : inS figs 34 = false := by decide +kernel
  have wq : Str.ofString "\"" = (⟨#[34]⟩ : Str) := by decide +kernel
  have hrl5 : r.length ≤ 5000 := by omega
  have h1 : (0 : Int) ≤ (b : Int) + 1 := by omega
  have hbl : b ≤ x.length := by omega
  refine ⟨?_⟩
  k_steps
  refine raises_d OX F9 N9 rfl (Str.ofString "a text that is too long", tk + 1 + 1, i9) (by k_mem) ?_
  intro q hq
  have n1 := ne_kind N9 (.tail _ (.head _)) (.head _) (by kernel_rfl!)
  have n2 := ne_kind N9 (.tail _ (.tail _ (.head _))) (.head _) (by kernel_rfl!)
  have n3 := ne_kind N9 (.tail _ (.tail _ (.tail _ (.head _)))) (.head _) (by kernel_rfl!)
  rcases List.mem_cons.mp hq with rfl | hq
  · exact ⟨.tail _ (.head _), n1⟩
  rcases List.mem_cons.mp hq with rfl | hq
  · exact ⟨.tail _ (.tail _ (.head _)), n2⟩
  rcases List.mem_cons.mp hq with rfl | hq
  · exact ⟨.tail _ (.tail _ (.tail _ (.head _))), n3⟩
  rcases List.mem_cons.mp hq with rfl | hq
  · exact ⟨(.tail _ (.tail _ (.tail _ (.tail _ (.tail _ (.tail _ (.tail _ hkt))))))), ne_cls N9 (.tail _ (.tail _ (.tail _ (.tail _ (.tail _ (.tail _ (.tail _ hkt))))))) (.head _) (by nofun)⟩
  · cases hq
end
theorem offC13 : True := by
  k_with "off C13" => skip
  trivial
section
theorem regC141 : True := by
  k_with "w call ref" => ((fail_if_success k_extra "off C14"); (((k_here; (with_reducible show wpAny _ _ (call (Value.ref 234) _) _ _ _); k_dflt (refine' call0 (mkCursor_d ) ?hzkB ?hzkF ?hzkX ?hzkN ?hzkT ?hzkk ?hzkd ?hzku ?_; k_extra "D com"); k_extra "D fin"))))
  k_with "w call ref" => ((fail_if_success k_extra "off C14"); (((k_here; (with_reducible show wpAny _ _ (call (Value.ref 261) _) _ _ _); k_dflt (refine' call0 (mkPart_d ) ?hzkB ?hzkF ?hzkX ?hzkN ?hzkT ?hzkk ?hzkd ?hzku ?_; k_extra "D com"); k_extra "D fin"))))
  k_with "w call ref" => ((fail_if_success k_extra "off C14"); (((k_here; (with_reducible show wpAny _ _ (call (Value.ref 182) _) _ _ _); k_dflt (refine' call1 (fun rest hr => skipBlanks_d ?hzs0 ?hzs1 ?hzs2 ?hzs3 ?hzs4 ?hzs5 rest hr) ?hzkB ?hzkF ?hzkX ?hzkN ?hzkT ?hzkk ?hzkd ?hzku ?hzkx ?hzkr ?hzkU ?_; k_extra "D com1"; (case hzs5 => k_extra "D side"); (case hzs4 => k_extra "D side"); (case hzs3 => k_extra "D side"); (case hzs2 => k_extra "D side"); (case hzs1 => k_extra "D side"); (case hzs0 => k_extra "D side")); k_extra "D fin"))))
  k_with "w call ref" => ((fail_if_success k_extra "off C14"); (((k_here; (with_reducible show wpAny _ _ (call (Value.ref 131) _) _ _ _); k_dflt (refine' call0 (isDoneT ?hzs0 ?hzs1 ?hzs2 ?hzs3) ?hzkB ?hzkF ?hzkX ?hzkN ?hzkT ?hzkk ?hzkd ?hzku ?_; k_extra "D com"; (case hzs3 => k_extra "D side"); (case hzs2 => k_extra "D side"); (case hzs1 => k_extra "D side"); (case hzs0 => k_extra "D side")); k_extra "D fin"))))
  k_with "w exec While UnaryOp cons nil" => ((fail_if_success k_extra "off C14"); (((refine Halt.out ?_))))
  trivial
noncomputable abbrev PartI : Type := Addr × Addr × Tok × Tok × Tok
noncomputable abbrev PrI : Type := Addr × PartI × PartI × PartI × PartI × (Tok × Tok × Tok × Tok × Tok × Tok) × (Value × Value × Value × Value)
noncomputable abbrev prts (w : World) (r : Str) (i : PrI) : Led :=
  [(i.1, W.listOf [Value.ref i.2.1.1, Value.ref i.2.2.1.1, Value.ref i.2.2.2.1.1, Value.ref i.2.2.2.2.1.1].toArray 4),
    (i.2.1.1, instObj 261 i.2.1.2.1), (i.2.1.2.1, partD w i.2.1.2.2.1 i.2.1.2.2.2.1 i.2.1.2.2.2.2 (.str (Str.ofString "own") i.2.2.2.2.2.1.1) .none i.2.2.2.2.2.2.1),
    (i.2.2.1.1, instObj 261 i.2.2.1.2.1), (i.2.2.1.2.1, partD w i.2.2.1.2.2.1 i.2.2.1.2.2.2.1 i.2.2.1.2.2.2.2 (.str (Str.ofString "sign") i.2.2.2.2.2.1.2.1) (.str (Str.ofString "=") i.2.2.2.2.2.1.2.2.1) i.2.2.2.2.2.2.2.1),
    (i.2.2.2.1.1, instObj 261 i.2.2.2.1.2.1), (i.2.2.2.1.2.1, partD w i.2.2.2.1.2.2.1 i.2.2.2.1.2.2.2.1 i.2.2.2.1.2.2.2.2 (.str (Str.ofString "text") i.2.2.2.2.2.1.2.2.2.1) (.str r i.2.2.2.2.2.1.2.2.2.2.1) i.2.2.2.2.2.2.2.2.1),
    (i.2.2.2.2.1.1, instObj 261 i.2.2.2.2.1.2.1), (i.2.2.2.2.1.2.1, partD w i.2.2.2.2.1.2.2.1 i.2.2.2.2.1.2.2.2.1 i.2.2.2.2.1.2.2.2.2 (.str (Str.ofString "end") i.2.2.2.2.2.1.2.2.2.2.2) .none i.2.2.2.2.2.2.2.2.2)]
/-- the page: blanks, two dollars, a sign, a text -/
structure Page (x : Str) (g j : Nat) (ws : List Nat) (e : Int) (r : Str) : Prop where
  hz : x.length ≤ 5000
  hg : ∀ i, i < g → AtC x (0 + (i : Nat)) 32
  a0 : AtC x (0 + (g : Nat)) 36
  a1 : AtC x (0 + (g : Nat) + 1) 36
  a2 : AtC x (0 + (g : Nat) + 1 + 1) 32
  a3 : AtC x (0 + (g : Nat) + 1 + 1 + 1) 61
  a4 : AtC x (0 + (g : Nat) + 1 + 1 + 1 + 1) 32
  a5 : AtC x (0 + (g : Nat) + 1 + 1 + 1 + 1 + 1) 34
  hr : (⟨(List.replicate j 98 ++ ws).toArray⟩ : Str) = r
  hj : j ≤ 2001
  hsh : Shown x (0 + (g : Nat) + 1 + 1 + 1 + 1 + 1 + 1 + (j : Int)) ws e
  hal : ∀ i, i < j → AtC x (0 + (g : Nat) + 1 + 1 + 1 + 1 + 1 + 1 + (i : Nat)) 98
  hl : (x.length : Int) = 0 + (g : Nat) + 1 + 1 + 1 + 1 + 1 + 1 + (j : Int) + e
  hno : ∀ i : Nat, i < g + 5 → ∃ c, AtC x i c ∧ ((⟨#[c]⟩ : Str) == Str.ofString "\n") = false
theorem scan_b {w : World} {x r : Str} {tt : Tok} {gp j : Nat} {ws : List Nat} {e : Int} {news : Led} (hp : Page x gp j ws e r) (hkt : ((780, tabObj #[]) : Addr × Obj) ∈ news) :
    CtB w 293 [.str x tt] 40 400 news (R1 (ι := PrI) (fun _ => r.length ≤ 2000) (fun _ => []) (fun i => .ref i.1) news (fun i => prts w r i ++ news)) 95 (ι := PLift (2000 < r.length) × KI) (fun i => kpE w (gp + 5) i.2) := by
  have hz := hp.hz
  have hall := hp.hg
  have hin : inS blanks 32 = true := by decide +kernel
  have hend : (x.length : Int) ≤ 0 + (gp : Int) ∨ ∃ d, AtC x (0 + (gp : Int)) d ∧ inS blanks d = false := .inr ⟨36, hp.a0, by decide +kernel⟩
  have hj : (0 : Int) + (gp : Int) ≤ x.length := Int.le_of_lt hp.a0.hi
  refine' with_lit (w := w) (f := 293) ?ho0 ?kk0
  case ho0 => k_is
  case' kk0 => intro e1 e2
  refine' CtB.of [(Str.ofString "text", .str x tt)] ?ho ?hcd ?hb ?hl ?hco ?hg ?hk ?hc ?bd
  case ho => k_is
  case hcd => k_is
  case hb => exact fun s9 X9 => by first | exact BindsTo.of_eq rfl | exact binds_K X9 rfl (by k_is) rfl rfl rfl
  case hl => exact locs rfl
  case hco => rfl
  case hg => rfl
  case hk => rfl
  case hc => rfl
  case' bd => (intro dp un gd outer A₀ base g L h o k p loose mean mg mb E B F X N T hdp hun he hE OX; k_fold; have hEO := envOk he (by kernel_rfl); (try have hBO := bindsOk F (by kernel_rfl)); have hMk : KstMark := kstMark)
  k_steps
  rename_i cu _ _ _ pl _ l1 _ _ _ _ _ _
  refine Halt.go ?_
  refine while_wn 4 ?_ hE
  have fc : Fresh cu.2.1 news := hA9b
  have fl : Fresh pl news := ⟨fresh_lt l1.2.2⟩
  have N1 := kst_newsOf (l' := (pl, W.listOf ([] : List Value).toArray 0) :: (cu.2.1, curD w cu.2.2.1 cu.2.2.2 x tt (0 + (gp : Int)) i9) :: (cu.1, instObj 234 cu.2.1) :: news) N9 (by kcj_all)
  have F1 := scanM_fr (x := x) (tt := tt) (cx := cu.1) (pl := pl) F9 (fun z _ _ _ _ => by
    by_cases h5 : z = Str.ofString "parts"
    · subst h5
      rw [if_neg (by decide +kernel), if_pos rfl, if_pos rfl]
    · rw [if_neg h5, if_neg h5])
  clear hA9a hA9b l1 F9 N9
  refine WN.turn (scanT1 e1 e2 (by omega) (by omega) hp.a0 hp.a1 hp.a2 hp.a3 hz (by decide) fc fl B F1 X N1 T (fun i1 h1 tk1 u1 fc1 fl1 F1 N1 => WN.turn (scanT2 e1 e2 (by omega) (by omega) hp.a3 hp.a4 hp.a5 hz (by simp) fc1 fl1 B F1 X N1 T (fun i2 h2 tk2 u2 fc2 fl2 F2 N2 => WN.turn ?_))))
  clear fc fl fc1 fl1 F1 N1
  rcases Nat.lt_or_ge 2000 r.length with hlt | hle
  · have hc : (0 : Int) + (gp : Int) + 1 + 1 + 1 + 1 + 1 = ((gp + 5 : Nat) : Int) := by omega
    have q1 := hp.a5
    have q2 := hp.hsh
    have q3 := hp.hal
    have q4 := hp.hl
    rw [hc] at q1 q2 q4 N2
    simp only [hc] at q3
    have q5 := hp.hsh.few
    have q6 : r.length ≤ 2002 := by
      rw [← hp.hr]
      show (List.replicate j 98 ++ ws).toArray.size ≤ 2002
      have := hp.hj
      simp only [List.size_toArray, List.length_append, List.length_replicate]
      omega
    exact scanT3x e1 e2 (by omega) (by omega) q1 hp.hr hp.hj hlt q6 hp.hno q2 q3 q4 hz (by simp) fc2 fl2 (by simp [hkt]) B F2 X N2 T ⟨fun i => OX.here (⟨hlt⟩, i), fun i => OX.on (⟨hlt⟩, i)⟩
  · refine scanT3 e1 e2 (by omega) (by omega) hp.a5 hp.hr hp.hj hle hp.hsh hp.hal hp.hl hz (by simp) fc2 fl2 B F2 X N2 T (fun i3 h3 tk3 u3 fc3 fl3 F3 N3 => WN.turn ⟨?_⟩)
    clear F2 N2 fc2 fl2 hall hin hend hj e1 e2
    have hdone : (x.length : Int) ≤ 0 + (gp : Int) + 1 + 1 + 1 + 1 + 1 + 1 + (j : Int) + e := Int.le_of_eq hp.hl
    have hz2 : ([Value.ref i1.1, Value.ref i2.1, Value.ref i3.1] : List Value).toArray.size ≤ sizeLine := size_arr (n := 5) (by simp) (by decide)
    simp only [List.nil_append, List.cons_append] at N3
    k_steps
    rename_i te _ _ F8 N8
    exact R1.ret (pl, (i1.1, i1.2.1, i1.2.2.1, i1.2.2.2.1, i1.2.2.2.2.1), (i2.1, i2.2.1, i2.2.2.1, i2.2.2.2.1, i2.2.2.2.2.1), (i3.1, i3.2.1, i3.2.2.1, i3.2.2.2.1, i3.2.2.2.2.1), i9, (i1.2.2.2.2.2.1, i2.2.2.2.2.2.1, i2.2.2.2.2.2.2.1, i3.2.2.2.2.2.1, i3.2.2.2.2.2.2.1, te), (_, _, _, _)) hle nofresh F8 N8 rfl (by kcj_all)
end
theorem offC14 : True := by
  k_with "off C14" => skip
  trivial
section
theorem CtB.make {w : World} {C fI Cx : Addr} {vs : List Value} {d u : Nat} {news : Led} {Post : Value → Led → Prop} {ι : Type} {kp : ι → Addr → Addr → Led}
    (hm : makesIn (Mine.K w.params) C = true) (hi : findIn (Mine.K w.params) (.ref C) "__init__" = some (some (.ref fI))) (hf : isFn (Mine.K w.params) (.ref fI) = true)
    (H : ∀ x dx, (∀ p ∈ news, p.1 < dx) → dx < x → CtB w fI (.ref x :: vs) d u ((x, instObj C dx) :: (dx, dictOf [] 0) :: news) (fun r l => r = .none ∧ Post (.ref x) l) Cx kp) : CtB w C vs (d + 1) (u + 10) news Post Cx kp := by
  intro dp un gd cn cs a ccd cl outer A₀ base h₀ L m s R p loose mean mg mb B F X N T hck hd hu hret hexc
  refine make_K F N (X.keeps F.keep) hm hi (beq_iff_eq.mp hf) fun x dx h' F' N' l1 l2 => ?_
  have e1 : Code.weight (.builtin "type.__call__" ⟨.ref C :: vs, []⟩) ≤ 1 := Nat.le_of_ble_eq_true rfl
  have e2 : Code.cUnits (.builtin "type.__call__" ⟨.ref C :: vs, []⟩) ≤ 10 := Nat.le_of_ble_eq_true rfl
  exact H x dx l1 l2 (dp + Code.weight (.builtin "type.__call__" ⟨.ref C :: vs, []⟩)) (un + Code.cUnits (.builtin "type.__call__" ⟨.ref C :: vs, []⟩)) (pushGuards (Code.guards (.builtin "type.__call__" ⟨.ref C :: vs, []⟩)) gd) cn cs a ccd cl outer A₀ base h₀ L m { s with heap := h' } _ p loose mean mg mb B F' X N' T hck (by omega) (by omega)
    (fun r news' h2 tk' hp F2 N2 => ⟨hp.1, hret _ _ _ _ hp.2 F2 N2⟩) hexc
noncomputable abbrev RdI : Type := Tok × Tok × Tok × Tok × Tok
noncomputable abbrev rdD (w : World) (ks : RdI) (text parts spot deep below : Value) : Obj := dictOf [en w "text" ks.1 text, en w "parts" ks.2.1 parts, en w "spot" ks.2.2.1 spot, en w "deep" ks.2.2.2.1 deep, en w "below" ks.2.2.2.2 below] 5
theorem regC151 : True := by
  k_with "w call ref" => ((fail_if_success k_extra "off C15"); (((k_here; (with_reducible show wpAny _ _ (call (Value.ref 293) _) _ _ _); k_dflt (refine' callB0 (scan_b ?hzs0 ?hzs1) ?hzkB ?hzkF ?hzkX ?hzkN ?hzkT ?hzkk ?hzkd ?hzku ?hzkO ?hzkp ?_; k_extra "D com"; (case hzs1 => k_extra "D side"); (case hzs0 => k_extra "D side"); (case hzkO => k_extra "B out"); (case hzkp => k_extra "B keep")); k_extra "D fin"))))
  trivial
theorem rinit_b {w : World} {rx rd : Addr} {x r : Str} {tt : Tok} {g j : Nat} {ws : List Nat} {e : Int} {news : Led} (hp : Page x g j ws e r) (hkt : ((780, tabObj #[]) : Addr × Obj) ∈ news) (l1 : ∀ p ∈ news, p.1 < rd) (l2 : rd < rx) :
    CtB w 307 [.ref rx, .str x tt] 50 500 ((rx, instObj 444 rd) :: (rd, dictOf [] 0) :: news)
      (fun v l => v = .none ∧ R1 (ι := Addr × Addr × PrI × RdI × Tok × Tok × Tok) (fun _ => r.length ≤ 2000) (fun i => [i.1, i.2.1]) (fun i => .ref i.1) news (fun i => ((i.1, instObj 444 i.2.1) :: (i.2.1, rdD w i.2.2.2.1 (.str x tt) (.ref i.2.2.1.1) (.int 0 i.2.2.2.2.1) (.int 0 i.2.2.2.2.2.1) (.int 0 i.2.2.2.2.2.2)) :: prts w r i.2.2.1) ++ news) (.ref rx) l)
      95 (ι := PLift (2000 < r.length) × KI) (fun i => kpE w (g + 5) i.2) := by
  have fx : Fresh rx news := ⟨fun q hq => Nat.ne_of_lt (Nat.lt_trans (l1 q hq) l2)⟩
  have fd : Fresh rd news := ⟨fun q hq => Nat.ne_of_lt (l1 q hq)⟩
  refine' CtB.of [(Str.ofString "self", .ref rx), (Str.ofString "text", .str x tt)] ?ho ?hcd ?hb ?hl ?hco ?hg ?hk ?hc ?bd
  case ho => k_is
  case hcd => k_is
  case hb => exact fun s9 X9 => by first | exact BindsTo.of_eq rfl | exact binds_K X9 rfl (by k_is) rfl rfl rfl
  case hl => exact locs rfl
  case hco => rfl
  case hg => rfl
  case hk => rfl
  case hc => rfl
  case' bd => (intro dp un gd outer A₀ base g L h o k p loose mean mg mb E B F X N T hdp hun he hE OX; k_fold; have hEO := envOk he (by kernel_rfl); (try have hBO := bindsOk F (by kernel_rfl)); have hMk : KstMark := kstMark)
  k_steps
  exact R1.init2 (rx, rd, i9, (_, _, _, _, _), _, _, _) hP9 (fresh2 fx.go fd.go) (by assumption) (by assumption) rfl (by kcj_all)
end
theorem offC15 : True := by
  k_with "off C15" => skip
  trivial
section
theorem mkReader_b {w : World} {x r : Str} {tt : Tok} {g j : Nat} {ws : List Nat} {e : Int} {news : Led} (hp : Page x g j ws e r) (hkt : ((780, tabObj #[]) : Addr × Obj) ∈ news) :
    CtB w 444 [.str x tt] 51 510 news
      (R1 (ι := Addr × Addr × PrI × RdI × Tok × Tok × Tok) (fun _ => r.length ≤ 2000) (fun i => [i.1, i.2.1]) (fun i => .ref i.1) news (fun i => ((i.1, instObj 444 i.2.1) :: (i.2.1, rdD w i.2.2.2.1 (.str x tt) (.ref i.2.2.1.1) (.int 0 i.2.2.2.2.1) (.int 0 i.2.2.2.2.2.1) (.int 0 i.2.2.2.2.2.2)) :: prts w r i.2.2.1) ++ news))
      95 (ι := PLift (2000 < r.length) × KI) (fun i => kpE w (g + 5) i.2) := by
  refine' CtB.make (fI := 307) ?a ?b ?c ?d
  case a => k_is
  case b => k_is
  case c => k_is
  case d => exact fun _ _ l1 l2 => rinit_b hp hkt l1 l2
theorem regC161 : True := by
  k_with "w subscriptTail" => ((fail_if_success k_extra "off C16"); (((k_here; (with_reducible show wpAny _ _ (subscriptTail _ _ (Value.ref _) (Value.int _ _)) _ _ _); (with_unfolding_all refine' my_item ?hzk1 ?hzk2 ?hzk3 ?hzk4 ?_ ?hzk6; (case hzk1 => exact News.isList (by k_asm) (by k_mem)); (case hzk2 => omega); (case hzk3 => omega); (case hzk4 => assumption); (case hzk6 => with_unfolding_all rfl); k_whole)))))
  trivial
section
variable {w : World} {rx rd pl pa pd : Addr} {ks : RdI} {txt dpv blv v wo of : Value} {xs : List Value} {n : Nat} {sp ah : Int} {ts ta tk1 tk2 tk3 q1 q2 q3 : Tok} {kd y z : Str} {news : Led}
theorem here_d (hx : xs[sp.toNat]? = some v) (h0 : 0 ≤ sp) (hs : sp ≤ 9) (h3 : (pl, W.listOf xs.toArray n) ∈ news) (h1 : (rx, instObj 444 rd) ∈ news) (h2 : (rd, rdD w ks txt (.ref pl) (.int sp ts) dpv blv) ∈ news) :
    Ct w 328 [.ref rx] 2 20 news (R1 (ι := Unit) (fun _ => True) (fun _ => []) (fun _ => v) news (fun _ => [] ++ news)) := by
  refine' Ct.of [(Str.ofString "self", .ref rx)] ?ho ?hcd ?hb ?hl ?hco ?hg ?hk ?hc ?bd
  case ho => k_is
  case hcd => k_is
  case hb => exact fun s9 X9 => by first | exact BindsTo.of_eq rfl | exact binds_K X9 rfl (by k_is) rfl rfl rfl
  case hl => exact locs rfl
  case hco => rfl
  case hg => rfl
  case hk => rfl
  case hc => rfl
  case' bd => (intro dp un gd outer A₀ base g L h o k p loose mean mg mb E B F X N T hdp hun he hE; k_fold; have hEO := envOk he (by kernel_rfl); (try have hBO := bindsOk F (by kernel_rfl)); have hMk : KstMark := kstMark)
  k_steps
  exact R1.ret' () trivial nofresh (by assumption) (by assumption) rfl
theorem isSignF (hk : (kd == Str.ofString "sign") = false) (h5 : (pd, partD w q1 q2 q3 (.str kd tk1) wo of) ∈ news) (h4 : (pa, instObj 261 pd) ∈ news) (hx : xs[(sp + ah).toNat]? = some (.ref pa)) (h0 : 0 ≤ sp + ah) (hs : sp + ah < 4) (hl : xs.length = 4) (h3 : (pl, W.listOf xs.toArray n) ∈ news) (h1 : (rx, instObj 444 rd) ∈ news) (h2 : (rd, rdD w ks txt (.ref pl) (.int sp ts) dpv blv) ∈ news) :
    Ct w 343 [.ref rx, .str y tk2, .int ah ta] 2 20 news (R1 (ι := Unit) (fun _ => True) (fun _ => []) (fun _ => .bool false) news (fun _ => [] ++ news)) := by
  refine' Ct.of [(Str.ofString "self", .ref rx), (Str.ofString "sign", .str y tk2), (Str.ofString "ahead", .int ah ta)] ?ho ?hcd ?hb ?hl ?hco ?hg ?hk ?hc ?bd
  case ho => k_is
  case hcd => k_is
  case hb => exact fun s9 X9 => by first | exact BindsTo.of_eq rfl | exact binds_K X9 rfl (by k_is) rfl rfl rfl
  case hl => exact locs rfl
  case hco => rfl
  case hg => rfl
  case hk => rfl
  case hc => rfl
  case' bd => (intro dp un gd outer A₀ base g L h o k p loose mean mg mb E B F X N T hdp hun he hE; k_fold; have hEO := envOk he (by kernel_rfl); (try have hBO := bindsOk F (by kernel_rfl)); have hMk : KstMark := kstMark)
  k_steps
  exact R1.ret' () trivial nofresh (by assumption) (by assumption) (congrArg Value.bool hk)
theorem isSignF0 (hk : (kd == Str.ofString "sign") = false) (h5 : (pd, partD w q1 q2 q3 (.str kd tk1) wo of) ∈ news) (h4 : (pa, instObj 261 pd) ∈ news) (hx : xs[sp.toNat]? = some (.ref pa)) (h0 : 0 ≤ sp) (hs : sp < 4) (hl : xs.length = 4) (h3 : (pl, W.listOf xs.toArray n) ∈ news) (h1 : (rx, instObj 444 rd) ∈ news) (h2 : (rd, rdD w ks txt (.ref pl) (.int sp ts) dpv blv) ∈ news) :
    Ct w 343 [.ref rx, .str y tk2] 2 20 news (R1 (ι := Unit) (fun _ => True) (fun _ => []) (fun _ => .bool false) news (fun _ => [] ++ news)) := by
  rw [← Int.add_zero sp] at hx
  refine' Ct.of [(Str.ofString "self", .ref rx), (Str.ofString "sign", .str y tk2), (Str.ofString "ahead", .int 0 747)] ?ho ?hcd ?hb ?hl ?hco ?hg ?hk ?hc ?bd
  case ho => k_is
  case hcd => k_is
  case hb => exact fun s9 X9 => by first | exact BindsTo.of_eq rfl | exact binds_K X9 rfl (by k_is) rfl rfl rfl
  case hl => exact locs rfl
  case hco => rfl
  case hg => rfl
  case hk => rfl
  case hc => rfl
  case' bd => (intro dp un gd outer A₀ base g L h o k p loose mean mg mb E B F X N T hdp hun he hE; k_fold; have hEO := envOk he (by kernel_rfl); (try have hBO := bindsOk F (by kernel_rfl)); have hMk : KstMark := kstMark)
  k_steps
  exact R1.ret' () trivial nofresh (by assumption) (by assumption) (congrArg Value.bool hk)
theorem isSignT (hk : (z == y) = true) (h5 : (pd, partD w q1 q2 q3 (.str (Str.ofString "sign") tk1) (.str z tk3) of) ∈ news) (h4 : (pa, instObj 261 pd) ∈ news) (hx : xs[(sp + ah).toNat]? = some (.ref pa)) (h0 : 0 ≤ sp + ah) (hs : sp + ah < 4) (hl : xs.length = 4) (h3 : (pl, W.listOf xs.toArray n) ∈ news) (h1 : (rx, instObj 444 rd) ∈ news) (h2 : (rd, rdD w ks txt (.ref pl) (.int sp ts) dpv blv) ∈ news) :
    Ct w 343 [.ref rx, .str y tk2, .int ah ta] 2 20 news (R1 (ι := Unit) (fun _ => True) (fun _ => []) (fun _ => .bool true) news (fun _ => [] ++ news)) := by
  refine' Ct.of [(Str.ofString "self", .ref rx), (Str.ofString "sign", .str y tk2), (Str.ofString "ahead", .int ah ta)] ?ho ?hcd ?hb ?hl ?hco ?hg ?hk ?hc ?bd
  case ho => k_is
  case hcd => k_is
  case hb => exact fun s9 X9 => by first | exact BindsTo.of_eq rfl | exact binds_K X9 rfl (by k_is) rfl rfl rfl
  case hl => exact locs rfl
  case hco => rfl
  case hg => rfl
  case hk => rfl
  case hc => rfl
  case' bd => (intro dp un gd outer A₀ base g L h o k p loose mean mg mb E B F X N T hdp hun he hE; k_fold; have hEO := envOk he (by kernel_rfl); (try have hBO := bindsOk F (by kernel_rfl)); have hMk : KstMark := kstMark)
  k_steps
  all_goals exact R1.ret' () trivial nofresh (by assumption) (by assumption) (congrArg Value.bool hk)
end
end
theorem offC16 : True := by
  k_with "off C16" => skip
  trivial
section
theorem regC171 : True := by
  k_with "w call ref" => ((fail_if_success k_extra "off C17"); (((k_here; (with_reducible show wpAny _ _ (call (Value.ref 328) _) _ _ _); k_dflt (refine' call0 (here_d ?hzs0 ?hzs1 ?hzs2 ?hzs3 ?hzs4 ?hzs5) ?hzkB ?hzkF ?hzkX ?hzkN ?hzkT ?hzkk ?hzkd ?hzku ?_; k_extra "D com"; (case hzs5 => k_extra "D side"); (case hzs4 => k_extra "D side"); (case hzs3 => k_extra "D side"); (case hzs2 => k_extra "D side"); (case hzs1 => k_extra "D side"); (case hzs0 => k_extra "D side")); k_extra "D fin"))))
  trivial
section
variable {w : World} {rx rd pl pa pd : Addr} {ks : RdI} {txt dpv blv v wo of : Value} {r : Str} {ts td tb tc tk tr q1 q2 q3 : Tok} {dd bb cc sp : Int} {xs : List Value} {n : Nat}
theorem rtake_d (hx : xs[sp.toNat]? = some v) (h0 : 0 ≤ sp) (hs : sp ≤ 9) (rest : Led) (hr : ∀ p ∈ rest, p.1 ≠ rd) :
    Ct w 364 [.ref rx] 6 60 ((rd, rdD w ks txt (.ref pl) (.int sp ts) dpv blv) :: ([(rx, instObj 444 rd), (pl, W.listOf xs.toArray n)] ++ rest))
      (R1 (ι := Tok) (fun _ => True) (fun _ => []) (fun _ => v) ((rd, rdD w ks txt (.ref pl) (.int sp ts) dpv blv) :: ([(rx, instObj 444 rd), (pl, W.listOf xs.toArray n)] ++ rest)) (fun t => [] ++ (rd, rdD w ks txt (.ref pl) (.int (sp + 1) t) dpv blv) :: ([(rx, instObj 444 rd), (pl, W.listOf xs.toArray n)] ++ rest))) := by
  dsimp only [List.cons_append, List.nil_append]
  refine' Ct.of [(Str.ofString "self", .ref rx)] ?ho ?hcd ?hb ?hl ?hco ?hg ?hk ?hc ?bd
  case ho => k_is
  case hcd => k_is
  case hb => exact fun s9 X9 => by first | exact BindsTo.of_eq rfl | exact binds_K X9 rfl (by k_is) rfl rfl rfl
  case hl => exact locs rfl
  case hco => rfl
  case hg => rfl
  case hk => rfl
  case hc => rfl
  case' bd => (intro dp un gd outer A₀ base g L h o k p loose mean mg mb E B F X N T hdp hun he hE; k_fold; have hEO := envOk he (by kernel_rfl); (try have hBO := bindsOk F (by kernel_rfl)); have hMk : KstMark := kstMark)
  k_steps
  exact R1.ret' _ trivial nofresh (by assumption) (by assumption) rfl
theorem enter_d (hd : dd < 90) (rest : Led) (hr : ∀ p ∈ rest, p.1 ≠ rd) :
    Ct w 314 [.ref rx] 4 40 ((rd, rdD w ks txt (.ref pl) (.int sp ts) (.int dd td) blv) :: ([(rx, instObj 444 rd)] ++ rest))
      (R1 (ι := Tok) (fun _ => True) (fun _ => []) (fun _ => .none) ((rd, rdD w ks txt (.ref pl) (.int sp ts) (.int dd td) blv) :: ([(rx, instObj 444 rd)] ++ rest)) (fun t => [] ++ (rd, rdD w ks txt (.ref pl) (.int sp ts) (.int (dd + 1) t) blv) :: ([(rx, instObj 444 rd)] ++ rest))) := by
  dsimp only [List.cons_append, List.nil_append]
  have hne : (dd == 100) = false := beq_eq_false_iff_ne.mpr (by omega)
  refine' Ct.of [(Str.ofString "self", .ref rx)] ?ho ?hcd ?hb ?hl ?hco ?hg ?hk ?hc ?bd
  case ho => k_is
  case hcd => k_is
  case hb => exact fun s9 X9 => by first | exact BindsTo.of_eq rfl | exact binds_K X9 rfl (by k_is) rfl rfl rfl
  case hl => exact locs rfl
  case hco => rfl
  case hg => rfl
  case hk => rfl
  case hc => rfl
  case' bd => (intro dp un gd outer A₀ base g L h o k p loose mean mg mb E B F X N T hdp hun he hE; k_fold; have hEO := envOk he (by kernel_rfl); (try have hBO := bindsOk F (by kernel_rfl)); have hMk : KstMark := kstMark)
  k_steps
  exact R1.next' _ trivial nofresh (by assumption) (by assumption) rfl
theorem leave_d (rest : Led) (hr : ∀ p ∈ rest, p.1 ≠ rd) :
    Ct w 321 [.ref rx, .int cc tc] 4 40 ((rd, rdD w ks txt (.ref pl) (.int sp ts) (.int dd td) (.int bb tb)) :: ([(rx, instObj 444 rd)] ++ rest))
      (R1 (ι := Tok × Tok) (fun _ => True) (fun _ => []) (fun _ => .none) ((rd, rdD w ks txt (.ref pl) (.int sp ts) (.int dd td) (.int bb tb)) :: ([(rx, instObj 444 rd)] ++ rest)) (fun t => [] ++ (rd, rdD w ks txt (.ref pl) (.int sp ts) (.int (dd - 1) t.1) (.int (cc + 1) t.2)) :: ([(rx, instObj 444 rd)] ++ rest))) := by
  dsimp only [List.cons_append, List.nil_append]
  refine' Ct.of [(Str.ofString "self", .ref rx), (Str.ofString "below", .int cc tc)] ?ho ?hcd ?hb ?hl ?hco ?hg ?hk ?hc ?bd
  case ho => k_is
  case hcd => k_is
  case hb => exact fun s9 X9 => by first | exact BindsTo.of_eq rfl | exact binds_K X9 rfl (by k_is) rfl rfl rfl
  case hl => exact locs rfl
  case hco => rfl
  case hg => rfl
  case hk => rfl
  case hc => rfl
  case' bd => (intro dp un gd outer A₀ base g L h o k p loose mean mg mb E B F X N T hdp hun he hE; k_fold; have hEO := envOk he (by kernel_rfl); (try have hBO := bindsOk F (by kernel_rfl)); have hMk : KstMark := kstMark)
  k_steps
  exact R1.next' (_, _) trivial nofresh (by assumption) (by assumption) rfl
theorem regC172 : True := by
  k_with "w call ref" => ((fail_if_success k_extra "off C17"); (((k_here; (with_reducible show wpAny _ _ (call (Value.ref 364) _) _ _ _); k_dflt (refine' call1 (fun rest hr => rtake_d ?hzs0 ?hzs1 ?hzs2 rest hr) ?hzkB ?hzkF ?hzkX ?hzkN ?hzkT ?hzkk ?hzkd ?hzku ?hzkx ?hzkr ?hzkU ?_; k_extra "D com1"; (case hzs2 => k_extra "D side"); (case hzs1 => k_extra "D side"); (case hzs0 => k_extra "D side")); k_extra "D fin"))))
  trivial
noncomputable abbrev rdA (w : World) (rx rd pl pa pd : Addr) (r : Str) (xs : List Value) (n : Nat) (tk tr q1 q2 q3 : Tok) (of : Value) : Led := [(rx, instObj 444 rd), (pl, W.listOf xs.toArray n), (pd, partD w q1 q2 q3 (.str (Str.ofString "text") tk) (.str r tr) of), (pa, instObj 261 pd)]
theorem atom_d (hx : xs[sp.toNat]? = some (.ref pa)) (h0 : 0 ≤ sp) (hs : sp ≤ 9) (rest : Led) (hr : ∀ p ∈ rest, p.1 ≠ rd) :
    Ct w 434 [.ref rx] 10 100 ((rd, rdD w ks txt (.ref pl) (.int sp ts) dpv blv) :: (rdA w rx rd pl pa pd r xs n tk tr q1 q2 q3 of ++ rest))
      (R1 (ι := Addr × Tok × Tok) (fun _ => True) (fun i => [i.1]) (fun i => .ref i.1) ((rd, rdD w ks txt (.ref pl) (.int sp ts) dpv blv) :: (rdA w rx rd pl pa pd r xs n tk tr q1 q2 q3 of ++ rest)) (fun t => [(t.1, tupOf [.str (Str.ofString "text") tk, .str r tr])] ++ (rd, rdD w ks txt (.ref pl) (.int (sp + 1) t.2.1) dpv (.int 0 t.2.2)) :: (rdA w rx rd pl pa pd r xs n tk tr q1 q2 q3 of ++ rest))) := by
  dsimp only [rdA, List.cons_append, List.nil_append]
  refine' Ct.of [(Str.ofString "self", .ref rx)] ?ho ?hcd ?hb ?hl ?hco ?hg ?hk ?hc ?bd
  case ho => k_is
  case hcd => k_is
  case hb => exact fun s9 X9 => by first | exact BindsTo.of_eq rfl | exact binds_K X9 rfl (by k_is) rfl rfl rfl
  case hl => exact locs rfl
  case hco => rfl
  case hg => rfl
  case hk => rfl
  case hc => rfl
  case' bd => (intro dp un gd outer A₀ base g L h o k p loose mean mg mb E B F X N T hdp hun he hE; k_fold; have hEO := envOk he (by kernel_rfl); (try have hBO := bindsOk F (by kernel_rfl)); have hMk : KstMark := kstMark)
  k_steps
  rename_i D2 h8 F8 N8 l8
  exact R1.ret (D2, _, _) trivial (fresh1 (fresh_lt l8.2)) F8 N8 rfl (by kcj_all)
theorem regC173 : True := by
  k_with "w call ref" => ((fail_if_success k_extra "off C17"); (((k_here; (with_reducible show wpAny _ _ (call (Value.ref 343) _) _ _ _); k_dflt (refine' call0 (isSignF0 ?hzs0 ?hzs1 ?hzs2 ?hzs3 ?hzs4 ?hzs5 ?hzs6 ?hzs7 ?hzs8 ?hzs9) ?hzkB ?hzkF ?hzkX ?hzkN ?hzkT ?hzkk ?hzkd ?hzku ?_; k_extra "D com"; (case hzs9 => k_extra "D side"); (case hzs8 => k_extra "D side"); (case hzs7 => k_extra "D side"); (case hzs6 => k_extra "D side"); (case hzs5 => k_extra "D side"); (case hzs4 => k_extra "D side"); (case hzs3 => k_extra "D side"); (case hzs2 => k_extra "D side"); (case hzs1 => k_extra "D side"); (case hzs0 => k_extra "D side")); k_extra "D fin"))))
  k_with "w call ref" => ((fail_if_success k_extra "off C17"); (((k_here; (with_reducible show wpAny _ _ (call (Value.ref 434) _) _ _ _); k_dflt (refine' call1 (fun rest hr => atom_d ?hzs0 ?hzs1 ?hzs2 rest hr) ?hzkB ?hzkF ?hzkX ?hzkN ?hzkT ?hzkk ?hzkd ?hzku ?hzkx ?hzkr ?hzkU ?_; k_extra "D com1"; (case hzs2 => k_extra "D side"); (case hzs1 => k_extra "D side"); (case hzs0 => k_extra "D side")); k_extra "D fin"))))
  trivial
theorem unary_d (hl : xs.length = 4) (hx : xs[sp.toNat]? = some (.ref pa)) (h0 : 0 ≤ sp) (hs : sp < 4) (rest : Led) (hr : ∀ p ∈ rest, p.1 ≠ rd) :
    Ct w 427 [.ref rx] 14 140 ((rd, rdD w ks txt (.ref pl) (.int sp ts) dpv blv) :: (rdA w rx rd pl pa pd r xs n tk tr q1 q2 q3 of ++ rest))
      (R1 (ι := Addr × Tok × Tok) (fun _ => True) (fun i => [i.1]) (fun i => .ref i.1) ((rd, rdD w ks txt (.ref pl) (.int sp ts) dpv blv) :: (rdA w rx rd pl pa pd r xs n tk tr q1 q2 q3 of ++ rest)) (fun t => [(t.1, tupOf [.str (Str.ofString "text") tk, .str r tr])] ++ (rd, rdD w ks txt (.ref pl) (.int (sp + 1) t.2.1) dpv (.int 0 t.2.2)) :: (rdA w rx rd pl pa pd r xs n tk tr q1 q2 q3 of ++ rest))) := by
  dsimp only [rdA, List.cons_append, List.nil_append]
  have hts : (Str.ofString "text" == Str.ofString "sign") = false := by decide +kernel
  refine' Ct.of [(Str.ofString "self", .ref rx)] ?ho ?hcd ?hb ?hl ?hco ?hg ?hk ?hc ?bd
  case ho => k_is
  case hcd => k_is
  case hb => exact fun s9 X9 => by first | exact BindsTo.of_eq rfl | exact binds_K X9 rfl (by k_is) rfl rfl rfl
  case hl => exact locs rfl
  case hco => rfl
  case hg => rfl
  case hk => rfl
  case hc => rfl
  case' bd => (intro dp un gd outer A₀ base g L h o k p loose mean mg mb E B F X N T hdp hun he hE; k_fold; have hEO := envOk he (by kernel_rfl); (try have hBO := bindsOk F (by kernel_rfl)); have hMk : KstMark := kstMark)
  k_steps
  exact R1.ret' (_, _, _) trivial (fresh1 hA9a.go) (by assumption) (by assumption) rfl
end
end
theorem offC17 : True := by
  k_with "off C17" => skip
  trivial
section
theorem regC181 : True := by
  k_with "w call ref" => ((fail_if_success k_extra "off C18"); (((k_here; (with_reducible show wpAny _ _ (call (Value.ref 328) _) _ _ _); k_dflt (refine' call0 (here_d ?hzs0 ?hzs1 ?hzs2 ?hzs3 ?hzs4 ?hzs5) ?hzkB ?hzkF ?hzkX ?hzkN ?hzkT ?hzkk ?hzkd ?hzku ?_; k_extra "D com"; (case hzs5 => k_extra "D side"); (case hzs4 => k_extra "D side"); (case hzs3 => k_extra "D side"); (case hzs2 => k_extra "D side"); (case hzs1 => k_extra "D side"); (case hzs0 => k_extra "D side")); k_extra "D fin"))))
  k_with "w call ref" => ((fail_if_success k_extra "off C18"); (((k_here; (with_reducible show wpAny _ _ (call (Value.ref 314) _) _ _ _); k_dflt (refine' call1 (fun rest hr => enter_d ?hzs0 rest hr) ?hzkB ?hzkF ?hzkX ?hzkN ?hzkT ?hzkk ?hzkd ?hzku ?hzkx ?hzkr ?hzkU ?_; k_extra "D com1"; (case hzs0 => k_extra "D side")); k_extra "D fin"))))
  k_with "w call ref" => ((fail_if_success k_extra "off C18"); (((k_here; (with_reducible show wpAny _ _ (call (Value.ref 321) _) _ _ _); k_dflt (refine' call1 (fun rest hr => leave_d  rest hr) ?hzkB ?hzkF ?hzkX ?hzkN ?hzkT ?hzkk ?hzkd ?hzku ?hzkx ?hzkr ?hzkU ?_; k_extra "D com1"); k_extra "D fin"))))
  k_with "w call ref" => ((fail_if_success k_extra "off C18"); (((k_here; (with_reducible show wpAny _ _ (call (Value.ref 427) _) _ _ _); k_dflt (refine' call1 (fun rest hr => unary_d ?hzs0 ?hzs1 ?hzs2 ?hzs3 rest hr) ?hzkB ?hzkF ?hzkX ?hzkN ?hzkT ?hzkk ?hzkd ?hzku ?hzkx ?hzkr ?hzkU ?_; k_extra "D com1"; (case hzs3 => k_extra "D side"); (case hzs2 => k_extra "D side"); (case hzs1 => k_extra "D side"); (case hzs0 => k_extra "D side")); k_extra "D fin"))))
  k_with "w exec While Constant cons nil" => ((fail_if_success k_extra "off C18"); (((refine Halt.out ?_))))
  trivial
noncomputable abbrev rdE (w : World) (rx rd pl pa pd pb pe : Addr) (r : Str) (xs : List Value) (n : Nat) (tk tr te q1 q2 q3 q4 q5 q6 : Tok) (of of2 : Value) : Led := [(rx, instObj 444 rd), (pl, W.listOf xs.toArray n), (pd, partD w q1 q2 q3 (.str (Str.ofString "text") tk) (.str r tr) of), (pa, instObj 261 pd), (pe, partD w q4 q5 q6 (.str (Str.ofString "end") te) .none of2), (pb, instObj 261 pe)]
section
variable {w : World} {rx rd pl pa pd pb pe : Addr} {ks : RdI} {txt blv of of2 : Value} {r : Str} {ts td tb tk tr te q1 q2 q3 q4 q5 q6 : Tok} {dd sp : Int} {xs : List Value} {n : Nat}
theorem expr_d (hd : dd < 90) (hl : xs.length = 4) (hx : xs[sp.toNat]? = some (.ref pa)) (hy : xs[(sp + 1).toNat]? = some (.ref pb)) (h0 : 0 ≤ sp) (hs : sp < 3) (rest : Led) (hr : ∀ p ∈ rest, p.1 ≠ rd) :
    Ct w 420 [.ref rx, .int 1 tb] 20 200 ((rd, rdD w ks txt (.ref pl) (.int sp ts) (.int dd td) blv) :: (rdE w rx rd pl pa pd pb pe r xs n tk tr te q1 q2 q3 q4 q5 q6 of of2 ++ rest))
      (R1 (ι := Addr × Tok × Tok × Tok) (fun _ => True) (fun i => [i.1]) (fun i => .ref i.1) ((rd, rdD w ks txt (.ref pl) (.int sp ts) (.int dd td) blv) :: (rdE w rx rd pl pa pd pb pe r xs n tk tr te q1 q2 q3 q4 q5 q6 of of2 ++ rest))
        (fun t => [(t.1, tupOf [.str (Str.ofString "text") tk, .str r tr])] ++ (rd, rdD w ks txt (.ref pl) (.int (sp + 1) t.2.1) (.int (dd + 1 - 1) t.2.2.1) (.int (0 + 1) t.2.2.2)) :: (rdE w rx rd pl pa pd pb pe r xs n tk tr te q1 q2 q3 q4 q5 q6 of of2 ++ rest))) := by
  dsimp only [rdE, List.cons_append, List.nil_append]
  refine' Ct.of [(Str.ofString "self", .ref rx), (Str.ofString "least", .int 1 tb)] ?ho ?hcd ?hb ?hl ?hco ?hg ?hk ?hc ?bd
  case ho => k_is
  case hcd => k_is
  case hb => exact fun s9 X9 => by first | exact BindsTo.of_eq rfl | exact binds_K X9 rfl (by k_is) rfl rfl rfl
  case hl => exact locs rfl
  case hco => rfl
  case hg => rfl
  case hk => rfl
  case hc => rfl
  case' bd => (intro dp un gd outer A₀ base g L h o k p loose mean mg mb E B F X N T hdp hun he hE; k_fold; have hEO := envOk he (by kernel_rfl); (try have hBO := bindsOk F (by kernel_rfl)); have hMk : KstMark := kstMark)
  k_steps
  refine Halt.go ?_
  refine while_wn 1 ?_ hE
  refine WN.turn ⟨?_⟩
  k_steps
  rename_i uv _ _ _ _ _ _ _ _ _ _ _ _ _ _ _ _ _ _ _ _ _ 
  exact R1.ret (uv.1, uv.2.1, i9.1, i9.2) trivial (fresh1 hA9a.re) (by assumption) (by assumption) rfl (by kcj_all)
end
end
theorem offC18 : True := by
  k_with "off C18" => skip
  trivial
section
theorem regC191 : True := by
  k_with "w call ref" => ((fail_if_success k_extra "off C19"); (((k_here; (with_reducible show wpAny _ _ (call (Value.ref 328) _) _ _ _); k_dflt (refine' call0 (here_d ?hzs0 ?hzs1 ?hzs2 ?hzs3 ?hzs4 ?hzs5) ?hzkB ?hzkF ?hzkX ?hzkN ?hzkT ?hzkk ?hzkd ?hzku ?_; k_extra "D com"; (case hzs5 => k_extra "D side"); (case hzs4 => k_extra "D side"); (case hzs3 => k_extra "D side"); (case hzs2 => k_extra "D side"); (case hzs1 => k_extra "D side"); (case hzs0 => k_extra "D side")); k_extra "D fin"))))
  k_with "w call ref" => ((fail_if_success k_extra "off C19"); (((k_here; (with_reducible show wpAny _ _ (call (Value.ref 343) _) _ _ _); k_dflt (refine' call0 (isSignF0 ?hzs0 ?hzs1 ?hzs2 ?hzs3 ?hzs4 ?hzs5 ?hzs6 ?hzs7 ?hzs8 ?hzs9) ?hzkB ?hzkF ?hzkX ?hzkN ?hzkT ?hzkk ?hzkd ?hzku ?_; k_extra "D com"; (case hzs9 => k_extra "D side"); (case hzs8 => k_extra "D side"); (case hzs7 => k_extra "D side"); (case hzs6 => k_extra "D side"); (case hzs5 => k_extra "D side"); (case hzs4 => k_extra "D side"); (case hzs3 => k_extra "D side"); (case hzs2 => k_extra "D side"); (case hzs1 => k_extra "D side"); (case hzs0 => k_extra "D side")); k_extra "D fin"))))
  k_with "w call ref" => ((fail_if_success k_extra "off C19"); (((k_here; (with_reducible show wpAny _ _ (call (Value.ref 343) _) _ _ _); k_dflt (refine' call0 (isSignT ?hzs0 ?hzs1 ?hzs2 ?hzs3 ?hzs4 ?hzs5 ?hzs6 ?hzs7 ?hzs8 ?hzs9) ?hzkB ?hzkF ?hzkX ?hzkN ?hzkT ?hzkk ?hzkd ?hzku ?_; k_extra "D com"; (case hzs9 => k_extra "D side"); (case hzs8 => k_extra "D side"); (case hzs7 => k_extra "D side"); (case hzs6 => k_extra "D side"); (case hzs5 => k_extra "D side"); (case hzs4 => k_extra "D side"); (case hzs3 => k_extra "D side"); (case hzs2 => k_extra "D side"); (case hzs1 => k_extra "D side"); (case hzs0 => k_extra "D side")); k_extra "D fin"))))
  k_with "w call ref" => ((fail_if_success k_extra "off C19"); (((k_here; (with_reducible show wpAny _ _ (call (Value.ref 420) _) _ _ _); k_dflt (refine' call1 (fun rest hr => expr_d ?hzs0 ?hzs1 ?hzs2 ?hzs3 ?hzs4 ?hzs5 rest hr) ?hzkB ?hzkF ?hzkX ?hzkN ?hzkT ?hzkk ?hzkd ?hzku ?hzkx ?hzkr ?hzkU ?_; k_extra "D com1"; (case hzs5 => k_extra "D side"); (case hzs4 => k_extra "D side"); (case hzs3 => k_extra "D side"); (case hzs2 => k_extra "D side"); (case hzs1 => k_extra "D side"); (case hzs0 => k_extra "D side")); k_extra "D fin"))))
  trivial
noncomputable abbrev rdS (w : World) (rx rd pl p0 d0 p1 d1 pa pd pb pe : Addr) (r : Str) (n : Nat) (ks1 ks2 ks3 ks4 : Tok × Tok × Tok) (to t1 t2 tk tr te : Tok) (v0 v1 of of2 : Value) : Led :=
  [(rx, instObj 444 rd), (pl, W.listOf [Value.ref p0, Value.ref p1, Value.ref pa, Value.ref pb].toArray n), (p0, instObj 261 d0), (d0, partD w ks1.1 ks1.2.1 ks1.2.2 (.str (Str.ofString "own") to) .none v0), (p1, instObj 261 d1), (d1, partD w ks2.1 ks2.2.1 ks2.2.2 (.str (Str.ofString "sign") t1) (.str (Str.ofString "=") t2) v1),
    (pa, instObj 261 pd), (pd, partD w ks3.1 ks3.2.1 ks3.2.2 (.str (Str.ofString "text") tk) (.str r tr) of), (pb, instObj 261 pe), (pe, partD w ks4.1 ks4.2.1 ks4.2.2 (.str (Str.ofString "end") te) .none of2)]
section
variable {w : World} {rx rd pl p0 d0 p1 d1 pa pd pb pe : Addr} {ks : RdI} {txt : Value} {r : Str} {n : Nat} {ks1 ks2 ks3 ks4 : Tok × Tok × Tok} {to t1 t2 tk tr te ts td tb : Tok} {v0 v1 of of2 blv : Value} {news : Led}
theorem isClosed_d {xs : List Value} {sp : Int} {pp dd : Addr} {wo dpv : Value} {q1 q2 q3 : Tok} (h5 : (dd, partD w q1 q2 q3 (.str (Str.ofString "own") tk) wo of) ∈ news) (h4 : (pp, instObj 261 dd) ∈ news) (hx : xs[sp.toNat]? = some (.ref pp)) (h0 : 0 ≤ sp) (hs : sp < 4) (hl : xs.length = 4) (h3 : (pl, W.listOf xs.toArray n) ∈ news) (h1 : (rx, instObj 444 rd) ∈ news) (h2 : (rd, rdD w ks txt (.ref pl) (.int sp ts) dpv blv) ∈ news) :
    Ct w 378 [.ref rx] 6 60 news (R1 (ι := Unit) (fun _ => True) (fun _ => []) (fun _ => .bool false) news (fun _ => [] ++ news)) := by
  have hts : (Str.ofString "own" == Str.ofString "sign") = false := by decide +kernel
  have hs9 : sp ≤ 9 := by omega
  refine' Ct.of [(Str.ofString "self", .ref rx)] ?ho ?hcd ?hb ?hl ?hco ?hg ?hk ?hc ?bd
  case ho => k_is
  case hcd => k_is
  case hb => exact fun s9 X9 => by first | exact BindsTo.of_eq rfl | exact binds_K X9 rfl (by k_is) rfl rfl rfl
  case hl => exact locs rfl
  case hco => rfl
  case hg => rfl
  case hk => rfl
  case hc => rfl
  case' bd => (intro dp un gd outer A₀ base g L h o k p loose mean mg mb E B F X N T hdp hun he hE; k_fold; have hEO := envOk he (by kernel_rfl); (try have hBO := bindsOk F (by kernel_rfl)); have hMk : KstMark := kstMark)
  k_steps
  exact R1.ret' () trivial nofresh (by assumption) (by assumption) rfl
theorem rskip_d {xs : List Value} {sp : Int} {pp dd : Addr} {wo dpv : Value} {q1 q2 q3 : Tok} {y : Str} (h5 : (dd, partD w q1 q2 q3 (.str (Str.ofString "end") tk) wo of) ∈ news) (h4 : (pp, instObj 261 dd) ∈ news) (hx : xs[sp.toNat]? = some (.ref pp)) (h0 : 0 ≤ sp) (hs : sp < 4) (hl : xs.length = 4) (h3 : (pl, W.listOf xs.toArray n) ∈ news) (h1 : (rx, instObj 444 rd) ∈ news) (h2 : (rd, rdD w ks txt (.ref pl) (.int sp ts) dpv blv) ∈ news) :
    Ct w 350 [.ref rx, .str y tb] 6 60 news (R1 (ι := Unit) (fun _ => True) (fun _ => []) (fun _ => .bool false) news (fun _ => [] ++ news)) := by
  have hts : (Str.ofString "end" == Str.ofString "sign") = false := by decide +kernel
  refine' Ct.of [(Str.ofString "self", .ref rx), (Str.ofString "sign", .str y tb)] ?ho ?hcd ?hb ?hl ?hco ?hg ?hk ?hc ?bd
  case ho => k_is
  case hcd => k_is
  case hb => exact fun s9 X9 => by first | exact BindsTo.of_eq rfl | exact binds_K X9 rfl (by k_is) rfl rfl rfl
  case hl => exact locs rfl
  case hco => rfl
  case hg => rfl
  case hk => rfl
  case hc => rfl
  case' bd => (intro dp un gd outer A₀ base g L h o k p loose mean mg mb E B F X N T hdp hun he hE; k_fold; have hEO := envOk he (by kernel_rfl); (try have hBO := bindsOk F (by kernel_rfl)); have hMk : KstMark := kstMark)
  k_steps
  exact R1.ret' () trivial nofresh (by assumption) (by assumption) rfl
theorem statement_d (rest : Led) (hr : ∀ p ∈ rest, p.1 ≠ rd) :
    Ct w 413 [.ref rx] 26 260 ((rd, rdD w ks txt (.ref pl) (.int 0 ts) (.int 0 td) blv) :: (rdS w rx rd pl p0 d0 p1 d1 pa pd pb pe r n ks1 ks2 ks3 ks4 to t1 t2 tk tr te v0 v1 of of2 ++ rest))
      (R1 (ι := Addr × Addr × Tok × Tok × Tok × Tok) (fun _ => True) (fun i => [i.1]) (fun i => .ref i.1) ((rd, rdD w ks txt (.ref pl) (.int 0 ts) (.int 0 td) blv) :: (rdS w rx rd pl p0 d0 p1 d1 pa pd pb pe r n ks1 ks2 ks3 ks4 to t1 t2 tk tr te v0 v1 of of2 ++ rest))
        (fun i => [(i.1, tupOf [.str (Str.ofString "set") i.2.2.1, .ref i.2.1]), (i.2.1, tupOf [.str (Str.ofString "text") tk, .str r tr])] ++ (rd, rdD w ks txt (.ref pl) (.int 3 i.2.2.2.1) (.int 0 i.2.2.2.2.1) (.int 1 i.2.2.2.2.2)) :: (rdS w rx rd pl p0 d0 p1 d1 pa pd pb pe r n ks1 ks2 ks3 ks4 to t1 t2 tk tr te v0 v1 of of2 ++ rest))) := by
  dsimp only [rdS, List.cons_append, List.nil_append]
  have hx : [Value.ref p0, Value.ref p1, Value.ref pa, Value.ref pb][(0 : Int).toNat]? = some (Value.ref p0) := rfl
  have hx1 : [Value.ref p0, Value.ref p1, Value.ref pa, Value.ref pb][((0 : Int) + 1).toNat]? = some (Value.ref p1) := rfl
  have hx2 : [Value.ref p0, Value.ref p1, Value.ref pa, Value.ref pb][((0 : Int) + 2).toNat]? = some (Value.ref pa) := rfl
  have hx3 : [Value.ref p0, Value.ref p1, Value.ref pa, Value.ref pb][((0 : Int) + 2 + 1).toNat]? = some (Value.ref pb) := rfl
  have hl : [Value.ref p0, Value.ref p1, Value.ref pa, Value.ref pb].length = 4 := rfl
  have hts : (Str.ofString "=" == Str.ofString "=") = true := by decide +kernel
  refine' Ct.of [(Str.ofString "self", .ref rx)] ?ho ?hcd ?hb ?hl ?hco ?hg ?hk ?hc ?bd
  case ho => k_is
  case hcd => k_is
  case hb => exact fun s9 X9 => by first | exact BindsTo.of_eq rfl | exact binds_K X9 rfl (by k_is) rfl rfl rfl
  case hl => exact locs rfl
  case hco => rfl
  case hg => rfl
  case hk => rfl
  case hc => rfl
  case' bd => (intro dp un gd outer A₀ base g L h o k p loose mean mg mb E B F X N T hdp hun he hE; k_fold; have hEO := envOk he (by kernel_rfl); (try have hBO := bindsOk F (by kernel_rfl)); have hMk : KstMark := kstMark)
  k_steps
  rename_i tq _ _ D2 _ F8 N8 l8
  exact R1.ret (D2, i9.1, tq + 1 + 1 + 1 + 2, i9.2.1, i9.2.2.1, i9.2.2.2) trivial (fresh1 (fresh_lt l8.2)) F8 N8 rfl (by kcj_all)
end
end
theorem offC19 : True := by
  k_with "off C19" => skip
  trivial
section
theorem regC201 : True := by
  k_with "w call ref" => ((fail_if_success k_extra "off C20"); (((k_here; (with_reducible show wpAny _ _ (call (Value.ref 328) _) _ _ _); k_dflt (refine' call0 (here_d ?hzs0 ?hzs1 ?hzs2 ?hzs3 ?hzs4 ?hzs5) ?hzkB ?hzkF ?hzkX ?hzkN ?hzkT ?hzkk ?hzkd ?hzku ?_; k_extra "D com"; (case hzs5 => k_extra "D side"); (case hzs4 => k_extra "D side"); (case hzs3 => k_extra "D side"); (case hzs2 => k_extra "D side"); (case hzs1 => k_extra "D side"); (case hzs0 => k_extra "D side")); k_extra "D fin"))))
  k_with "w call ref" => ((fail_if_success k_extra "off C20"); (((k_here; (with_reducible show wpAny _ _ (call (Value.ref 378) _) _ _ _); k_dflt (refine' call0 (isClosed_d ?hzs0 ?hzs1 ?hzs2 ?hzs3 ?hzs4 ?hzs5 ?hzs6 ?hzs7 ?hzs8) ?hzkB ?hzkF ?hzkX ?hzkN ?hzkT ?hzkk ?hzkd ?hzku ?_; k_extra "D com"; (case hzs8 => k_extra "D side"); (case hzs7 => k_extra "D side"); (case hzs6 => k_extra "D side"); (case hzs5 => k_extra "D side"); (case hzs4 => k_extra "D side"); (case hzs3 => k_extra "D side"); (case hzs2 => k_extra "D side"); (case hzs1 => k_extra "D side"); (case hzs0 => k_extra "D side")); k_extra "D fin"))))
  k_with "w call ref" => ((fail_if_success k_extra "off C20"); (((k_here; (with_reducible show wpAny _ _ (call (Value.ref 350) _) _ _ _); k_dflt (refine' call0 (rskip_d ?hzs0 ?hzs1 ?hzs2 ?hzs3 ?hzs4 ?hzs5 ?hzs6 ?hzs7 ?hzs8) ?hzkB ?hzkF ?hzkX ?hzkN ?hzkT ?hzkk ?hzkd ?hzku ?_; k_extra "D com"; (case hzs8 => k_extra "D side"); (case hzs7 => k_extra "D side"); (case hzs6 => k_extra "D side"); (case hzs5 => k_extra "D side"); (case hzs4 => k_extra "D side"); (case hzs3 => k_extra "D side"); (case hzs2 => k_extra "D side"); (case hzs1 => k_extra "D side"); (case hzs0 => k_extra "D side")); k_extra "D fin"))))
  k_with "w call ref" => ((fail_if_success k_extra "off C20"); (((k_here; (with_reducible show wpAny _ _ (call (Value.ref 413) _) _ _ _); k_dflt (refine' call1 (fun rest hr => statement_d  rest hr) ?hzkB ?hzkF ?hzkX ?hzkN ?hzkT ?hzkk ?hzkd ?hzku ?hzkx ?hzkr ?hzkU ?_; k_extra "D com1"); k_extra "D fin"))))
  k_with "w exec While UnaryOp cons nil" => ((fail_if_success k_extra "off C20"); (((refine Halt.out ?_))))
  trivial
section
variable {w : World} {rx rd pl p0 d0 p1 d1 pa pd pb pe : Addr} {ks : RdI} {txt : Value} {r : Str} {n : Nat} {ks1 ks2 ks3 ks4 : Tok × Tok × Tok} {to t1 t2 tk tr te ts td tb : Tok} {v0 v1 of of2 blv : Value} {news : Led}
theorem statements_d (rest : Led) (hr : ∀ p ∈ rest, p.1 ≠ rd) :
    Ct w 385 [.ref rx] 32 320 ((rd, rdD w ks txt (.ref pl) (.int 0 ts) (.int 0 td) blv) :: (rdS w rx rd pl p0 d0 p1 d1 pa pd pb pe r n ks1 ks2 ks3 ks4 to t1 t2 tk tr te v0 v1 of of2 ++ rest))
      (R1 (ι := Addr × Addr × Addr × Tok × Tok × Tok × Tok) (fun _ => True) (fun i => [i.1]) (fun i => .ref i.1) ((rd, rdD w ks txt (.ref pl) (.int 0 ts) (.int 0 td) blv) :: (rdS w rx rd pl p0 d0 p1 d1 pa pd pb pe r n ks1 ks2 ks3 ks4 to t1 t2 tk tr te v0 v1 of of2 ++ rest))
        (fun i => [(i.1, W.listOf #[.ref i.2.1] 1), (i.2.1, tupOf [.str (Str.ofString "set") i.2.2.2.1, .ref i.2.2.1]), (i.2.2.1, tupOf [.str (Str.ofString "text") tk, .str r tr])] ++ (rd, rdD w ks txt (.ref pl) (.int 3 i.2.2.2.2.1) (.int 0 i.2.2.2.2.2.1) (.int 1 i.2.2.2.2.2.2)) :: (rdS w rx rd pl p0 d0 p1 d1 pa pd pb pe r n ks1 ks2 ks3 ks4 to t1 t2 tk tr te v0 v1 of of2 ++ rest))) := by
  dsimp only [rdS, List.cons_append, List.nil_append]
  have hx : [Value.ref p0, Value.ref p1, Value.ref pa, Value.ref pb][(0 : Int).toNat]? = some (Value.ref p0) := rfl
  have hx3 : [Value.ref p0, Value.ref p1, Value.ref pa, Value.ref pb][(3 : Int).toNat]? = some (Value.ref pb) := rfl
  have hl : [Value.ref p0, Value.ref p1, Value.ref pa, Value.ref pb].length = 4 := rfl
  refine' Ct.of [(Str.ofString "self", .ref rx)] ?ho ?hcd ?hb ?hl ?hco ?hg ?hk ?hc ?bd
  case ho => k_is
  case hcd => k_is
  case hb => exact fun s9 X9 => by first | exact BindsTo.of_eq rfl | exact binds_K X9 rfl (by k_is) rfl rfl rfl
  case hl => exact locs rfl
  case hco => rfl
  case hg => rfl
  case hk => rfl
  case hc => rfl
  case' bd => (intro dp un gd outer A₀ base g L h o k p loose mean mg mb E B F X N T hdp hun he hE; k_fold; have hEO := envOk he (by kernel_rfl); (try have hBO := bindsOk F (by kernel_rfl)); have hMk : KstMark := kstMark)
  k_steps
  refine Halt.go ?_
  refine while_wn 1 ?_ hE
  refine WN.turn ⟨?_⟩
  k_steps
  rename_i fl _ l1 _ _ _ _ _ sv _ _ _ _
  exact R1.ret (fl, sv.1, sv.2.1, sv.2.2.1, sv.2.2.2.1, sv.2.2.2.2.1, sv.2.2.2.2.2) trivial (fresh1 (fresh_lt l1)) (by assumption) (by assumption) rfl (by kcj_all)
theorem regC202 : True := by
  k_with "w call ref" => ((fail_if_success k_extra "off C20"); (((k_here; (with_reducible show wpAny _ _ (call (Value.ref 385) _) _ _ _); k_dflt (refine' call1 (fun rest hr => statements_d  rest hr) ?hzkB ?hzkF ?hzkX ?hzkN ?hzkT ?hzkk ?hzkd ?hzku ?hzkx ?hzkr ?hzkU ?_; k_extra "D com1"); k_extra "D fin"))))
  trivial
theorem whole_d (rest : Led) (hr : ∀ p ∈ rest, p.1 ≠ rd) :
    Ct w 371 [.ref rx] 36 360 ((rd, rdD w ks txt (.ref pl) (.int 0 ts) (.int 0 td) blv) :: (rdS w rx rd pl p0 d0 p1 d1 pa pd pb pe r n ks1 ks2 ks3 ks4 to t1 t2 tk tr te v0 v1 of of2 ++ rest))
      (R1 (ι := Addr × Addr × Addr × Tok × Tok × Tok × Tok) (fun _ => True) (fun i => [i.1]) (fun i => .ref i.1) ((rd, rdD w ks txt (.ref pl) (.int 0 ts) (.int 0 td) blv) :: (rdS w rx rd pl p0 d0 p1 d1 pa pd pb pe r n ks1 ks2 ks3 ks4 to t1 t2 tk tr te v0 v1 of of2 ++ rest))
        (fun i => [(i.1, W.listOf #[.ref i.2.1] 1), (i.2.1, tupOf [.str (Str.ofString "set") i.2.2.2.1, .ref i.2.2.1]), (i.2.2.1, tupOf [.str (Str.ofString "text") tk, .str r tr])] ++ (rd, rdD w ks txt (.ref pl) (.int 3 i.2.2.2.2.1) (.int 0 i.2.2.2.2.2.1) (.int 1 i.2.2.2.2.2.2)) :: (rdS w rx rd pl p0 d0 p1 d1 pa pd pb pe r n ks1 ks2 ks3 ks4 to t1 t2 tk tr te v0 v1 of of2 ++ rest))) := by
  dsimp only [rdS, List.cons_append, List.nil_append]
  have hx3 : [Value.ref p0, Value.ref p1, Value.ref pa, Value.ref pb][(3 : Int).toNat]? = some (Value.ref pb) := rfl
  refine' Ct.of [(Str.ofString "self", .ref rx)] ?ho ?hcd ?hb ?hl ?hco ?hg ?hk ?hc ?bd
  case ho => k_is
  case hcd => k_is
  case hb => exact fun s9 X9 => by first | exact BindsTo.of_eq rfl | exact binds_K X9 rfl (by k_is) rfl rfl rfl
  case hl => exact locs rfl
  case hco => rfl
  case hg => rfl
  case hk => rfl
  case hc => rfl
  case' bd => (intro dp un gd outer A₀ base g L h o k p loose mean mg mb E B F X N T hdp hun he hE; k_fold; have hEO := envOk he (by kernel_rfl); (try have hBO := bindsOk F (by kernel_rfl)); have hMk : KstMark := kstMark)
  k_steps
  exact R1.ret' (_, _, _, _, _, _, _) trivial (fresh1 hA9a.go) (by assumption) (by assumption) rfl
end
theorem regC203 : True := by
  k_with "w call ref" => ((fail_if_success k_extra "off C20"); (((k_here; (with_reducible show wpAny _ _ (call (Value.ref 371) _) _ _ _); k_dflt (refine' call1 (fun rest hr => whole_d  rest hr) ?hzkB ?hzkF ?hzkX ?hzkN ?hzkT ?hzkk ?hzkd ?hzku ?hzkx ?hzkr ?hzkU ?_; k_extra "D com1"); k_extra "D fin"))))
  k_with "w call ref" => ((fail_if_success k_extra "off C20"); (((k_here; (with_reducible show wpAny _ _ (call (Value.ref 444) _) _ _ _); k_dflt (refine' callB0 (mkReader_b ?hzs0 ?hzs1) ?hzkB ?hzkF ?hzkX ?hzkN ?hzkT ?hzkk ?hzkd ?hzku ?hzkO ?hzkp ?_; k_extra "D com"; (case hzs1 => k_extra "D side"); (case hzs0 => k_extra "D side"); (case hzkO => k_extra "B out"); (case hzkp => k_extra "B keep")); k_extra "D fin"))))
  trivial
theorem parse_b {w : World} {x r : Str} {tt : Tok} {g j : Nat} {ws : List Nat} {e : Int} {news : Led} (hp : Page x g j ws e r) (hkt : ((780, tabObj #[]) : Addr × Obj) ∈ news) :
    CtB w 462 [.str x tt] 60 600 news
      (R1 (ι := Addr × Addr × Addr × Tok × Tok × Tok) (fun _ => r.length ≤ 2000) (fun _ => []) (fun i => .ref i.1) news (fun i => [(i.1, W.listOf #[.ref i.2.1] 1), (i.2.1, tupOf [.str (Str.ofString "set") i.2.2.2.1, .ref i.2.2.1]), (i.2.2.1, tupOf [.str (Str.ofString "text") i.2.2.2.2.1, .str r i.2.2.2.2.2])] ++ news))
      95 (ι := PLift (2000 < r.length) × KI) (fun i => kpE w (g + 5) i.2) := by
  refine' CtB.of [(Str.ofString "text", .str x tt)] ?ho ?hcd ?hb ?hl ?hco ?hg ?hk ?hc ?bd
  case ho => k_is
  case hcd => k_is
  case hb => exact fun s9 X9 => by first | exact BindsTo.of_eq rfl | exact binds_K X9 rfl (by k_is) rfl rfl rfl
  case hl => exact locs rfl
  case hco => rfl
  case hg => rfl
  case hk => rfl
  case hc => rfl
  case' bd => (intro dp un gd outer A₀ base g L h o k p loose mean mg mb E B F X N T hdp hun he hE OX; k_fold; have hEO := envOk he (by kernel_rfl); (try have hBO := bindsOk F (by kernel_rfl)); have hMk : KstMark := kstMark)
  k_steps
  rename_i mv _ _ hle _
  exact R1.ret (i9.1, i9.2.1, i9.2.2.1, i9.2.2.2.1, mv.2.2.1.2.2.2.2.2.1.2.2.2.1, mv.2.2.1.2.2.2.2.2.1.2.2.2.2.1) hle nofresh (by assumption) (by assumption) rfl (by kcj_all)
end
theorem offC20 : True := by
  k_with "off C20" => skip
  trivial
section
theorem regTR1 : True := by
  k_with "w call ref" => ((fail_if_success k_extra "off TR"); (((k_here; (with_reducible show wpAny _ _ (call (Value.ref 771) _) _ _ _); k_dflt (refine' call1 (fun rest hr => draw_d ?hzs0 ?hzs1 ?hzs2 ?hzs3 ?hzs4 ?hzs5 ?hzs6 ?hzs7 ?hzs8 rest hr) ?hzkB ?hzkF ?hzkX ?hzkN ?hzkT ?hzkk ?hzkd ?hzku ?hzkx ?hzkr ?hzkU ?_; k_extra "D com1"; (case hzs8 => k_extra "D side"); (case hzs7 => k_extra "D side"); (case hzs6 => k_extra "D side"); (case hzs5 => k_extra "D side"); (case hzs4 => k_extra "D side"); (case hzs3 => k_extra "D side"); (case hzs2 => k_extra "D side"); (case hzs1 => k_extra "D side"); (case hzs0 => k_extra "D side")); k_extra "D fin"))))
  k_with "w subscriptTail" => ((fail_if_success k_extra "off TR"); (((refine Halt.out ?_))))
  trivial
theorem menuC {t0 t1 t2 t3 t4 : Tok} {i : Int} (h : 0 ≤ i ∧ i < 5) : ∃ (n : Nat) (t : Tok), [Value.int 2000 t0, .int 2001 t1, .int 1999 t2, .int 2 t3, .int 0 t4][i.toNat]? = some (.int (n : Int) t) ∧ (n = 0 ∨ 2 ≤ n ∧ n ≤ 2001) := by
  obtain ⟨h1, h2⟩ := h
  have : i = 0 ∨ i = 1 ∨ i = 2 ∨ i = 3 ∨ i = 4 := by omega
  rcases this with rfl | rfl | rfl | rfl | rfl
  · exact ⟨2000, t0, rfl, .inr (by omega)⟩
  · exact ⟨2001, t1, rfl, .inr (by omega)⟩
  · exact ⟨1999, t2, rfl, .inr (by omega)⟩
  · exact ⟨2, t3, rfl, .inr (by omega)⟩
  · exact ⟨0, t4, rfl, .inl rfl⟩
noncomputable def ShW (sh wo : Str) : Prop := (sh = Str.ofString "\\x41" ∧ wo = Str.ofString "A") ∨ (sh = Str.ofString "\\n" ∧ wo = Str.ofString "\n") ∨ (sh = Str.ofString "z" ∧ wo = Str.ofString "z")
noncomputable abbrev trE (sc : Scope) (L : Addr) : Env := envX (Str.ofString "_law_text_right") sc L 790 (.ref 789) []
noncomputable abbrev trA (dp un : Nat) (gd : Option (List Code)) (sc : Scope) (L : Addr) (outer : List Env) : Around := ktrTop dp un gd (Str.ofString "_law_text_right") sc L 790 (.ref 789) [] outer
noncomputable def gapS (gp : Nat) : Str := Txt.mul (Str.ofString " ") (gp : Int)
section
variable {w : World} {dp un : Nat} {gd : Option (List Code)} {outer : List Env} {A₀ : Around} {base g : Heap} {L : Addr} {h : Heap} {o : Shared} {k : Nat} {p : Program} {loose : List Str} {mean : ExcName → Option Value} {mg mb : Str → Option Value} {E : Value → Shared → Prop}
    {sc : Scope} {bd : List Stmt} {tl : Led} {mm : Str → Option Value} {pn c : Addr} {sp z : Int} {t1 t2 : Tok} {vs : List Value} {ns : List Int} {n1 n2 : Nat}
noncomputable def Q0 (g : Heap) (L : Addr) (o : Shared) (pn c : Addr) (sp z : Int) (t2 : Tok) (n1 n2 : Nat) (vs : List Value) (f : Flow) (s' : Shared) : Prop :=
  f = .next ∧ ∃ (n gp : Nat) (t tg t1 : Tok), (n = 0 ∨ 2 ≤ n ∧ n ≤ 2001) ∧ gp < 4 ∧ Mid g L o [(Str.ofString "pen", Value.ref pn), (Str.ofString "count", .int (n : Int) t), (Str.ofString "gap", .str (gapS gp) tg)] ((pn, W.listOf #[.ref c, .int (sp + 1 + 1) t1, .int z t2] n1) :: (c, W.listOf vs.toArray n2) :: (780, tabObj #[]) :: []) s'
theorem textS0 (e1 : scopeAt w 790 = sc) (e2 : stmtsAt w 790 = bd) (hi : IntsAre vs ns) (h0 : 0 ≤ sp) (h9 : sp ≤ 7) (hl : ns.length ≤ 63) (hz : 0 ≤ z) (hz9 : z < 1000) (hc : @Ne Nat c pn) (hP : @Ne Nat 780 pn)
    (hdp : dp + 60 ≤ recursionLimit) (hun : un + 600 < cLine + 3)
    (B : Below A₀ base outer g) (X : (Mine.K w.params).In g) (T : Top p loose mean mg mb g)
    (F : Fr g L h (kstB mm [(Str.ofString "pen", Value.ref pn)])) (N : News g L h ((pn, W.listOf #[.ref c, .int sp t1, .int z t2] n1) :: (c, W.listOf vs.toArray n2) :: (780, tabObj #[]) :: [])) :
    wpAny (model PySem.Challenge.rw_qd0072_01.row.prog w) (trA dp un gd sc L outer) (exec (bd.headD default) (trE sc L)) (Q0 g L o pn c sp z t2 n1 n2 vs) E (SH o h k) := by
  have he : FnEnv (trE sc L) L := ⟨_, _, _, _, _, rfl, by rw [← e1]; rfl⟩
  refine' with_lit (w := w) (f := 790) ?ho ?kk
  case ho => k_is
  case' kk => intro f1 f2
  obtain rfl := e1.symm.trans f1
  obtain rfl := e2.symm.trans f2
  clear f1 f2
  dsimp only [List.headD]
  dsimp only [kstB] at F N
  have hMk : KstMark := kstMark
  k_steps
  refine Halt.go ?_
  obtain ⟨n, tn, hx, hn⟩ := menuC hP9
  (with_unfolding_all refine' my_titem ?k1 ?k2 ?k3 ?k4 ?k5 hx ?_ ?k6; (case k1 => k_asm); (case k2 => k_mem); (case k3 => omega); (case k4 => (simp only [List.length_cons, List.length_nil]; omega)); (case k5 => exact Nat.le_of_ble_eq_true rfl); (case k6 => with_unfolding_all rfl); k_whole)
  k_steps
  rename_i i8 h8 tk8 hP8 tt kk z1 z2 D1 h1 l1 h2 h3 h4 F1 N1
  have e : Txt.mul (Str.ofString " ") i9.fst = gapS i9.fst.toNat := by unfold gapS; rw [Int.toNat_of_nonneg hP9.1]
  rw [e] at F1
  exact ⟨rfl, n, i9.fst.toNat, tn, tt, i9.2.2, hn, by omega, Mid.of F1 N1 (by kst_all) (by kcj_all)⟩
noncomputable def Q1 (g : Heap) (L : Addr) (o : Shared) (n gp : Nat) (t tg : Tok) (f : Flow) (s' : Shared) : Prop :=
  f = .next ∧ ∃ (sh wo : Str) (ts tw : Tok), ShW sh wo ∧ Mid g L o [(Str.ofString "count", .int (n : Int) t), (Str.ofString "gap", .str (gapS gp) tg), (Str.ofString "shown", .str sh ts), (Str.ofString "worth", .str wo tw)] [(780, tabObj #[])] s'
theorem textS1 {n gp : Nat} {t tg : Tok} (e1 : scopeAt w 790 = sc) (e2 : stmtsAt w 790 = bd) (hi : IntsAre vs ns) (h0 : 0 ≤ sp) (h9 : sp ≤ 9) (hl : ns.length ≤ 63) (hz : 0 ≤ z) (hz9 : z < 1000) (hc : @Ne Nat c pn) (hP : @Ne Nat 780 pn)
    (hdp : dp + 60 ≤ recursionLimit) (hun : un + 600 < cLine + 3)
    (B : Below A₀ base outer g) (X : (Mine.K w.params).In g) (T : Top p loose mean mg mb g)
    (F : Fr g L h (kstB mm [(Str.ofString "pen", Value.ref pn), (Str.ofString "count", .int (n : Int) t), (Str.ofString "gap", .str (gapS gp) tg)])) (N : News g L h ((pn, W.listOf #[.ref c, .int sp t1, .int z t2] n1) :: (c, W.listOf vs.toArray n2) :: (780, tabObj #[]) :: [])) :
    wpAny (model PySem.Challenge.rw_qd0072_01.row.prog w) (trA dp un gd sc L outer) (exec (bd.getD 1 default) (trE sc L)) (Q1 g L o n gp t tg) E (SH o h k) := by
  have he : FnEnv (trE sc L) L := ⟨_, _, _, _, _, rfl, by rw [← e1]; rfl⟩
  refine' with_lit (w := w) (f := 790) ?ho ?kk
  case ho => k_is
  case' kk => intro f1 f2
  obtain rfl := e1.symm.trans f1
  obtain rfl := e2.symm.trans f2
  clear f1 f2
  dsimp only [List.getD, List.getElem?_cons_succ, List.getElem?_cons_zero, Option.getD_some]
  dsimp only [kstB] at F N
  have hMk : KstMark := kstMark
  k_steps
  refine Halt.go ?_
  obtain ⟨i9, ta, tb⟩ := i9
  dsimp only at hP9
  have h3 : i9 = 0 ∨ i9 = 1 ∨ i9 = 2 := by omega
  rcases h3 with rfl | rfl | rfl
  all_goals ((with_unfolding_all refine' my_titem ?k1 ?k2 ?k3 ?k4 ?k5 ?kx ?_ ?k6; (case k1 => k_asm); (case k2 => k_mem); (case k3 => omega); (case k4 => (simp only [List.length_cons, List.length_nil]; omega)); (case k5 => exact Nat.le_of_ble_eq_true rfl); (case kx => exact rfl); (case k6 => with_unfolding_all rfl); k_whole))
  all_goals k_steps
  · exact ⟨rfl, _, _, _, _, .inl ⟨rfl, rfl⟩, Mid.of (by assumption) (by assumption) (by kst_all) (by kcj_all)⟩
  · exact ⟨rfl, _, _, _, _, .inr (.inl ⟨rfl, rfl⟩), Mid.of (by assumption) (by assumption) (by kst_all) (by kcj_all)⟩
  · exact ⟨rfl, _, _, _, _, .inr (.inr ⟨rfl, rfl⟩), Mid.of (by assumption) (by assumption) (by kst_all) (by kcj_all)⟩
end
end
theorem offTR : True := by
  k_with "off TR" => skip
  trivial
section
theorem app_mk (a b : List Nat) : (⟨a.toArray⟩ : Str) ++ (⟨b.toArray⟩ : Str) = ⟨(a ++ b).toArray⟩ := by
  show Str.mk (a.toArray ++ b.toArray) = _
  rw [List.append_toArray]
theorem fold_rep (c : Nat) : ∀ (n : Nat) (a : Array Nat), (List.replicate n #[c]).foldl (· ++ ·) a = a ++ (List.replicate n c).toArray
  | 0, a => by simp
  | n + 1, a => by
    rw [List.replicate_succ, List.foldl_cons, fold_rep c n, List.replicate_succ]
    rw [Array.append_assoc]
    exact congrArg (a ++ ·) (by rw [show (#[c] : Array Nat) = [c].toArray from rfl, List.append_toArray]; rfl)
theorem mul_one (c n : Nat) : Txt.mul ⟨#[c]⟩ (n : Int) = ⟨(List.replicate n c).toArray⟩ := by
  unfold Txt.mul
  by_cases h1 : (n : Int) < 1
  · have : n = 0 := by omega
    subst this
    rfl
  · rw [if_neg h1]
    split
    · next h =>
      have h2 : n = 1 := by
        rcases (Bool.or_eq_true_iff.mp h) with h | h
        · have := of_decide_eq_true h; omega
        · cases h
      subst h2
      rfl
    · rw [fold_rep, Int.toNat_natCast]
      simp
theorem gapS_is (g : Nat) : gapS g = ⟨(List.replicate g 32).toArray⟩ := by
  unfold gapS
  rw [show Str.ofString " " = (⟨#[32]⟩ : Str) by decide +kernel]
  exact mul_one 32 g
theorem atL {l : List Nat} {a : Int} {i c : Nat} (e : a = (i : Int)) (h : l[i]? = some c) : AtC ⟨l.toArray⟩ a c := ⟨by omega, by subst e; simpa using h⟩
theorem getR {g k c0 : Nat} {m : List Nat} : (List.replicate g c0 ++ m)[g + k]? = m[k]? := by rw [List.getElem?_append_right (by simp)]; simp
theorem getI {g i c0 : Nat} {m : List Nat} (h : i < g) : (List.replicate g c0 ++ m)[i]? = some c0 := by rw [List.getElem?_append_left (by simpa)]; simp [h]
noncomputable def pageL (g j : Nat) (tail : List Nat) : List Nat := List.replicate g 32 ++ ([36, 36, 32, 61, 32, 34] ++ (List.replicate j 98 ++ tail))
noncomputable def TailOf (tail ws : List Nat) (e : Int) : Prop := (tail = [34] ∧ ws = [] ∧ e = 1) ∨ (tail = [122, 34] ∧ ws = [122] ∧ e = 2) ∨ (tail = [92, 110, 34] ∧ ws = [10] ∧ e = 3) ∨ (tail = [92, 120, 52, 49, 34] ∧ ws = [65] ∧ e = 5)
theorem TailOf.len {tail ws : List Nat} {e : Int} (h : TailOf tail ws e) : (tail.length : Int) = e ∧ tail.length ≤ 5 := by
  rcases h with ⟨rfl, -, rfl⟩ | ⟨rfl, -, rfl⟩ | ⟨rfl, -, rfl⟩ | ⟨rfl, -, rfl⟩ <;> exact ⟨rfl, by decide⟩
theorem page_len {g j : Nat} {tail : List Nat} : (pageL g j tail).length = g + (6 + (j + tail.length)) := by
  simp only [pageL, List.length_append, List.length_replicate, List.length_cons, List.length_nil]
theorem page_hd {g j k c : Nat} {tail : List Nat} (h : ([36, 36, 32, 61, 32, 34] : List Nat)[k]? = some c) : (pageL g j tail)[g + k]? = some c := by
  unfold pageL
  rw [getR, List.getElem?_append_left (List.getElem?_eq_some_iff.mp h).1]
  exact h
theorem page_b {g j q : Nat} {tail : List Nat} (h : q < j) : (pageL g j tail)[g + (6 + q)]? = some 98 := by
  unfold pageL
  rw [getR, List.getElem?_append_right (by simp)]
  rw [show 6 + q - ([36, 36, 32, 61, 32, 34] : List Nat).length = q by simp]
  exact getI h
theorem page_t {g j q c : Nat} {tail : List Nat} (h : tail[q]? = some c) : (pageL g j tail)[g + (6 + (j + q))]? = some c := by
  unfold pageL
  rw [getR, List.getElem?_append_right (by simp)]
  rw [show 6 + (j + q) - ([36, 36, 32, 61, 32, 34] : List Nat).length = j + q by simp]
  rw [getR]
  exact h
theorem page_of {g j : Nat} {tail ws : List Nat} {e : Int} {r : Str} (hg : g < 4) (hj : j ≤ 2001) (ht : TailOf tail ws e) (hr : (⟨(List.replicate j 98 ++ ws).toArray⟩ : Str) = r) : Page ⟨(pageL g j tail).toArray⟩ g j ws e r where
  hz := by
    show (pageL g j tail).toArray.size ≤ 5000
    rw [List.size_toArray, page_len]
    have := ht.len
    omega
  hg := fun i hi => atL (i := i) (by omega) (getI hi)
  a0 := atL (i := g + 0) (by omega) (page_hd rfl)
  a1 := atL (i := g + 1) (by omega) (page_hd rfl)
  a2 := atL (i := g + 2) (by omega) (page_hd rfl)
  a3 := atL (i := g + 3) (by omega) (page_hd rfl)
  a4 := atL (i := g + 4) (by omega) (page_hd rfl)
  a5 := atL (i := g + 5) (by omega) (page_hd rfl)
  hr := hr
  hj := hj
  hsh := by
    rcases ht with ⟨rfl, rfl, rfl⟩ | ⟨rfl, rfl, rfl⟩ | ⟨rfl, rfl, rfl⟩ | ⟨rfl, rfl, rfl⟩
    · exact .inl ⟨atL (i := g + (6 + (j + 0))) (by omega) (page_t rfl), rfl, rfl⟩
    · exact .inr (.inl ⟨atL (i := g + (6 + (j + 0))) (by omega) (page_t rfl), atL (i := g + (6 + (j + 1))) (by omega) (page_t rfl), rfl, rfl⟩)
    · exact .inr (.inr (.inl ⟨atL (i := g + (6 + (j + 0))) (by omega) (page_t rfl), atL (i := g + (6 + (j + 1))) (by omega) (page_t rfl), atL (i := g + (6 + (j + 2))) (by omega) (page_t rfl), rfl, rfl⟩))
    · exact .inr (.inr (.inr ⟨atL (i := g + (6 + (j + 0))) (by omega) (page_t rfl), atL (i := g + (6 + (j + 1))) (by omega) (page_t rfl), atL (i := g + (6 + (j + 2))) (by omega) (page_t rfl), atL (i := g + (6 + (j + 3))) (by omega) (page_t rfl), atL (i := g + (6 + (j + 4))) (by omega) (page_t rfl), rfl, rfl⟩))
  hal := fun i hi => atL (i := g + (6 + i)) (by omega) (page_b hi)
  hl := by
    show (((pageL g j tail).toArray.size : Nat) : Int) = _
    rw [List.size_toArray, page_len]
    have := ht.len
    omega
  hno := fun i hi => by
    by_cases h : i < g
    · exact ⟨32, atL rfl (getI h), by decide +kernel⟩
    · have : i = g + 0 ∨ i = g + 1 ∨ i = g + 2 ∨ i = g + 3 ∨ i = g + 4 := by omega
      rcases this with rfl | rfl | rfl | rfl | rfl
      · exact ⟨36, atL rfl (page_hd (k := 0) rfl), by decide +kernel⟩
      · exact ⟨36, atL rfl (page_hd (k := 1) rfl), by decide +kernel⟩
      · exact ⟨32, atL rfl (page_hd (k := 2) rfl), by decide +kernel⟩
      · exact ⟨61, atL rfl (page_hd (k := 3) rfl), by decide +kernel⟩
      · exact ⟨32, atL rfl (page_hd (k := 4) rfl), by decide +kernel⟩
theorem page_nil {g : Nat} : gapS g ++ Str.ofString "$$ = \"\"" = ⟨(pageL g 0 [34]).toArray⟩ := by
  rw [gapS_is, show Str.ofString "$$ = \"\"" = (⟨[36, 36, 32, 61, 32, 34, 34].toArray⟩ : Str) by decide +kernel, app_mk]
  rfl
theorem mul_b (n : Nat) (h : 0 < n) : Txt.mul (Str.ofString "b") ((n : Int) - 1) = ⟨(List.replicate (n - 1) 98).toArray⟩ := by
  rw [show Str.ofString "b" = (⟨#[98]⟩ : Str) by decide +kernel, show (n : Int) - 1 = ((n - 1 : Nat) : Int) by omega]
  exact mul_one 98 (n - 1)
theorem page_cons {g n : Nat} {sh wo : Str} (hn : 0 < n) (hs : ShW sh wo) : ∃ (tail ws : List Nat) (e : Int), TailOf tail ws e ∧ ws.length = 1 ∧ gapS g ++ Str.ofString "$$ = \"" ++ Txt.mul (Str.ofString "b") ((n : Int) - 1) ++ sh ++ Str.ofString "\"" = ⟨(pageL g (n - 1) tail).toArray⟩ ∧ Txt.mul (Str.ofString "b") ((n : Int) - 1) ++ wo = ⟨(List.replicate (n - 1) 98 ++ ws).toArray⟩ := by
  rw [gapS_is, mul_b n hn, show Str.ofString "$$ = \"" = (⟨[36, 36, 32, 61, 32, 34].toArray⟩ : Str) by decide +kernel, show Str.ofString "\"" = (⟨[34].toArray⟩ : Str) by decide +kernel, app_mk, app_mk]
  rcases hs with ⟨rfl, rfl⟩ | ⟨rfl, rfl⟩ | ⟨rfl, rfl⟩
  · refine ⟨_, _, _, .inr (.inr (.inr ⟨rfl, rfl, rfl⟩)), rfl, ?_, ?_⟩
    · rw [show Str.ofString "\\x41" = (⟨[92, 120, 52, 49].toArray⟩ : Str) by decide +kernel, app_mk, app_mk]
      simp only [pageL, List.append_assoc]
      rfl
    · rw [show Str.ofString "A" = (⟨[65].toArray⟩ : Str) by decide +kernel, app_mk]
  · refine ⟨_, _, _, .inr (.inr (.inl ⟨rfl, rfl, rfl⟩)), rfl, ?_, ?_⟩
    · rw [show Str.ofString "\\n" = (⟨[92, 110].toArray⟩ : Str) by decide +kernel, app_mk, app_mk]
      simp only [pageL, List.append_assoc]
      rfl
    · rw [show Str.ofString "\n" = (⟨[10].toArray⟩ : Str) by decide +kernel, app_mk]
  · refine ⟨_, _, _, .inr (.inl ⟨rfl, rfl, rfl⟩), rfl, ?_, ?_⟩
    · rw [show Str.ofString "z" = (⟨[122].toArray⟩ : Str) by decide +kernel, app_mk, app_mk]
      simp only [pageL, List.append_assoc]
      rfl
    · rw [show Str.ofString "z" = (⟨[122].toArray⟩ : Str) by decide +kernel, app_mk]
end
section
section
variable {w : World} {dp un : Nat} {gd : Option (List Code)} {outer : List Env} {A₀ : Around} {base g : Heap} {L : Addr} {h : Heap} {o : Shared} {k : Nat} {p : Program} {loose : List Str} {mean : ExcName → Option Value} {mg mb : Str → Option Value} {E : Value → Shared → Prop}
    {sc : Scope} {bd : List Stmt} {tl : Led} {mm : Str → Option Value} {pn c : Addr} {sp z : Int} {t1 t2 : Tok} {vs : List Value} {ns : List Int} {n1 n2 : Nat}
noncomputable def Q2 (g : Heap) (L : Addr) (o : Shared) (n gp : Nat) (t tg : Tok) (f : Flow) (s' : Shared) : Prop :=
  f = .next ∧ ∃ (x r : Str) (tx tr : Tok) (j : Nat) (ws : List Nat) (e : Int), Page x gp j ws e r ∧ r.length = n ∧ Mid g L o [(Str.ofString "count", .int (n : Int) t), (Str.ofString "gap", .str (gapS gp) tg), (Str.ofString "page", .str x tx), (Str.ofString "due", .str r tr)] [(780, tabObj #[])] s'
theorem textS2 {n gp : Nat} {t tg ts tw : Tok} {sh wo : Str} (e1 : scopeAt w 790 = sc) (e2 : stmtsAt w 790 = bd) (hn : n = 0 ∨ 2 ≤ n ∧ n ≤ 2001) (hg : gp < 4) (hs : ShW sh wo)
    (hdp : dp + 60 ≤ recursionLimit) (hun : un + 600 < cLine + 3)
    (B : Below A₀ base outer g) (X : (Mine.K w.params).In g) (T : Top p loose mean mg mb g)
    (F : Fr g L h (kstB mm [(Str.ofString "count", .int (n : Int) t), (Str.ofString "gap", .str (gapS gp) tg), (Str.ofString "shown", .str sh ts), (Str.ofString "worth", .str wo tw)])) (N : News g L h [(780, tabObj #[])]) :
    wpAny (model PySem.Challenge.rw_qd0072_01.row.prog w) (trA dp un gd sc L outer) (exec (bd.getD 2 default) (trE sc L)) (Q2 g L o n gp t tg) E (SH o h k) := by
  have he : FnEnv (trE sc L) L := ⟨_, _, _, _, _, rfl, by rw [← e1]; rfl⟩
  refine' with_lit (w := w) (f := 790) ?ho ?kk
  case ho => k_is
  case' kk => intro f1 f2
  obtain rfl := e1.symm.trans f1
  obtain rfl := e2.symm.trans f2
  clear f1 f2 e1 e2
  dsimp only [List.getD, List.getElem?_cons_succ, List.getElem?_cons_zero, Option.getD_some]
  dsimp only [kstB] at F N
  have hMk : KstMark := kstMark
  have hgl : (gapS gp).length = gp := by rw [gapS_is]; show (List.replicate gp 32).toArray.size = gp; simp
  have hsl : sh.length ≤ 4 := by rcases hs with ⟨rfl, -⟩ | ⟨rfl, -⟩ | ⟨rfl, -⟩ <;> decide
  have hwl : wo.length = 1 := by rcases hs with ⟨-, rfl⟩ | ⟨-, rfl⟩ | ⟨-, rfl⟩ <;> decide
  have e0 := page_nil (g := gp)
  have e1 := page_cons (g := gp) (n := n) (sh := sh) (wo := wo)
  generalize hgs : gapS gp = gs at *
  rcases hn with rfl | ⟨hn2, hn3⟩
  · k_steps
    rename Fr _ _ _ _ => F9
    rename News _ _ _ _ => N9
    rw [e0] at F9
    rw [← hgs] at F9
    exact ⟨rfl, _, Str.ofString "", _, _, 0, [], 1, page_of hg (by omega) (.inl ⟨rfl, rfl, rfl⟩) (by decide +kernel), by decide +kernel, Mid.of F9 N9 (by kst_all) (by kcj_all)⟩
  · k_steps
    rename Fr _ _ _ _ => F9
    rename News _ _ _ _ => N9
    obtain ⟨tail, ws, e, ht, hw, ex, er⟩ := e1 (by omega) hs
    rw [ex, er] at F9
    rw [← hgs] at F9
    exact ⟨rfl, _, _, _, _, n - 1, ws, e, page_of hg (by omega) ht rfl, by show (List.replicate (n - 1) 98 ++ ws).toArray.size = n; simp only [List.size_toArray, List.length_append, List.length_replicate, hw]; omega, Mid.of F9 N9 (by kst_all) (by kcj_all)⟩
end
end
section
section
open PySem.W
theorem at_x1 {w : World} : (findIn (Mine.K w.params) (.ref 95) "__getattribute__" == some (some (.builtin "BaseException.__getattribute__"))) = true := by kernel_rfl
theorem at_x2 {w : World} : (findIn (Mine.K w.params) (.ref 95) "__getattr__" == some none) = true := by kernel_rfl
theorem at_x3 {w : World} : excCls (Mine.K w.params) 95 82 = true := by kernel_rfl
theorem at_x4 {w : World} : hasDictIn (Mine.K w.params) 95 = true := by kernel_rfl
theorem at_x5 {w : World} : (findIn (Mine.K w.params) (.ref 95) (Str.ofString "at") == some none) = true := by kernel_rfl
end
end
section
section
open PySem.W
theorem ga_slot : PySem.Slot "ValueError" "__getattribute__" "BaseException.__getattribute__" := PySem.F.excAttr_ValueError.ga
theorem ga_kind : builtinKind "BaseException.__getattribute__" = some .slot := by decide +kernel
theorem ga_split : splitId "BaseException.__getattribute__" = some ("BaseException", "__getattribute__") := by decide +kernel
theorem ga_args (a b : Value) : slotArgs "__getattribute__" 1 ⟨[a, b], []⟩ = pure (a, [b]) := by
  unfold slotArgs
  simp
theorem ga_name (x : Str) (t : Tok) : Builtin.ObjectAttr.attrName (.str x t) = pure x := by
  unfold Builtin.ObjectAttr.attrName
  rfl
theorem get_excV {prog : Program} {w : World} {A : Around} {E : Value → Shared → Prop} {s : Shared} {K : Frag} {x C P : Addr} {ox : Obj} {od : Option Obj} {name : Str} {expr : Bool} {v : Value} {Q : Value → Shared → Prop} (X : K.In s.heap) (I : W.InstAt s.heap x ox C od)
    (hga : findIn K (.ref C) "__getattribute__" = some (some (.builtin "BaseException.__getattribute__"))) (hk : findIn K (.ref C) "__getattr__" = some none) (hp : excCls K C P = true)
    (hf : findObj K C od name = some (.value v)) (hh : handedIn v = true) (h : Q v { s with toks := s.toks + 1 }) : wpAny (model prog w) A (getAttr (.ref x) name expr) Q E s := by
  obtain ⟨cd, hc, hm, hd', hdel⟩ := excCls_ hp
  obtain ⟨hh', g, d, t, os⟩ := s
  have L0 := I.type (M := model prog w)
  have L1 := looks_findIn (M := model prog w) X hga
  have L2 := looks_findIn (M := model prog w) X hk
  have L3 := looks_find (M := model prog w) X I hf
  have sub : Looks (model prog w) hh' (isInstance (.ref x) (.type "BaseException")) true := I.type.andThen (looks_mroIn X (by unfold mroIn; rw [hc, Option.bind_some, if_neg (by rw [hm]; simp), hm]; rfl))
  have hx2 : (Value.builtin "BaseException.__getattribute__" == Value.builtin "object.__getattribute__") = false := by decide +kernel
  unfold getAttr getAttrBy
  refine wpAny_bind (wpAny_mkText (wpAny_holding (wpAny_bind (L0.at (wpAny_bind (L1.at ?_))))))
  show wpAny _ _ (if (onTheHeap (Value.ref C) && Value.builtin "BaseException.__getattribute__" == Value.builtin "object.__getattribute__") = true then _ else _) _ _ _
  rw [hx2, if_neg (by simp)]
  unfold getAttrByItsOwn
  refine wpAny_bind ((show Looks (model prog w) hh' (hookBefore (.ref C)) none from L2).at ?_)
  refine wpAny_bind (wpAny_attempt (wpAny_holding ?_))
  have e0 : callGetattribute (.ref x) (.str name t) (.builtin "BaseException.__getattribute__") expr = boundAndCalled (.builtin "BaseException.__getattribute__") (.ref x) (.str name t) := by
    unfold callGetattribute
    rw [show (expr && onTheHeap (Value.builtin "BaseException.__getattribute__")) = false by cases expr <;> rfl, if_neg (by simp)]
  rw [e0]
  unfold boundAndCalled
  rw [ga_slot.bind (.ref x)]
  refine wpAny_bind (wpAny_pure ?_)
  refine wpAny_call ?_
  refine codeAny_call_builtin ga_slot.plain PySem.F.entry_bexc_ga (@check_slot (model prog w) _ _ ⟨hh', g, d, t + 1, os⟩ "BaseException.__getattribute__" "BaseException" "__getattribute__" (.ref x) [.str name t] [] _ ga_kind ga_split sub (PySem.F.args_bexc_ga _ _) ?_)
  unfold Builtin.«object.__getattribute__»
  rw [show slotArgs "__getattribute__" 1 ⟨[Value.ref x] ++ [Value.str name t], []⟩ = pure (.ref x, [.str name t]) from ga_args _ _]
  refine wpAny_bind (wpAny_pure ?_)
  dsimp only
  rw [ga_name]
  refine wpAny_bind (wpAny_pure ?_)
  refine wpAny_bind (L0.at ?_)
  refine wpAny_bind (L3.at ?_)
  dsimp only
  refine wpAny_pure ?_
  show wpAny _ _ (handedOut v) _ _ _
  rw [handedOut_of hh]
  exact wpAny_pure h
theorem oe_at {prog : Program} {w : World} {A : Around} {E : Value → Shared → Prop} {h₀ : Heap} {s : Shared} {L xx D C P : Addr} {m : Str → Option Value} {news : Led} {es : List DictEntry} {n : Nat} {oe : Obj} {name : Str} {v : Value} {ex : Bool} {Q : Value → Shared → Prop} {attr : Option Value}
    (F : Fr h₀ L s.heap m) (X : (Mine.K w.params).In h₀) (N : News h₀ L s.heap news) (he : (xx, oe) ∈ news) (hD : (D, dictOf es n) ∈ news) (hc : oe.cls = .ref C) (hd : oe.dict = some D) (hno : notCls oe = true)
    (hga : findIn (Mine.K w.params) (.ref C) "__getattribute__" = some (some (.builtin "BaseException.__getattribute__"))) (hk : findIn (Mine.K w.params) (.ref C) "__getattr__" = some none) (hp : excCls (Mine.K w.params) C P = true)
    (h2 : hasDictIn (Mine.K w.params) C = true) (h3 : findIn (Mine.K w.params) (.ref C) name = some attr) (h4 : noGet (Mine.K w.params) attr = true) (hg : getL name es = some (some v)) (hh : handedIn v = true) (hq : Q v { s with toks := s.toks + 1 }) :
    wpAny (model prog w) A (getAttr (.ref xx) name ex) Q E s := by
  refine get_excV (od := some (dictOf es n)) (X.keeps F.keep) ⟨(N _ he).1, hc, hno, by rw [hd]; exact (N _ hD).1⟩ hga hk hp ?_ hh hq
  exact findObj_own h2 h3 h4 hg
theorem oe_atI {prog : Program} {w : World} {A : Around} {E : Value → Shared → Prop} {h₀ : Heap} {s : Shared} {L xx D C : Addr} {m : Str → Option Value} {news : Led} {es : List DictEntry} {n : Nat} {name : Str} {v : Value} {ex : Bool} {Q : Value → Shared → Prop}
    (F : Fr h₀ L s.heap m) (X : (Mine.K w.params).In h₀) (N : News h₀ L s.heap news) (he : (xx, instObj C D) ∈ news) (hD : (D, dictOf es n) ∈ news) (af : AttrF (Mine.K w.params) C name) (hg : getL name es = some (some v)) (hh : handedIn v = true) (hq : Q v { s with toks := s.toks + 1 }) :
    wpAny (model prog w) A (getAttr (.ref xx) name ex) Q E s := by
  obtain ⟨h1, h2, attr, h3, h4⟩ := af.go
  exact get_own F X (InstAt.of_news N he hD) h1 h2 h3 h4 hg hh hq
end
end
section
section
open PySem.W
theorem fault_at {prog : Program} {w : World} {A : Around} {E : Value → Shared → Prop} {h₀ : Heap} {s : Shared} {L xx D : Addr} {m : Str → Option Value} {news : Led} {es : List DictEntry} {n : Nat} {oe : Obj} {v : Value} {ex : Bool} {Q : Value → Shared → Prop}
    (F : Fr h₀ L s.heap m) (X : (Mine.K w.params).In h₀) (N : News h₀ L s.heap news) (he : (xx, oe) ∈ news) (hD : (D, dictOf es n) ∈ news) (hc : oe.cls = .ref 95) (hd : oe.dict = some D) (hno : notCls oe = true)
    (hg : getL (Str.ofString "at") es = some (some v)) (hh : handedIn v = true) (hq : Q v { s with toks := s.toks + 1 }) :
    wpAny (model prog w) A (getAttr (.ref xx) (Str.ofString "at") ex) Q E s :=
  oe_at F X N he hD hc hd hno (beq_iff_eq.mp (at_x1 (w := w))) (beq_iff_eq.mp (at_x2 (w := w))) (at_x3 (w := w)) (at_x4 (w := w)) (attr := none) (beq_iff_eq.mp (at_x5 (w := w))) rfl hg hh hq
end
end
section
section
variable {prog : Program} {w : World} {A : Around} {E : Value → Shared → Prop} {s : Shared} {h₀ : Heap} {L : Addr} {news : Led}
theorem tup2_at {v1 v2 u1 u2 : Value} (e1 : PySem.SeqAt.EqAt A s v1 u1 true) (e2 : PySem.SeqAt.EqAt A s v2 u2 true) : ∀ (j : Nat) (h1 : j < [v1, v2].length) (h2 : j < [u1, u2].length), PySem.SeqAt.EqAt A s [v1, v2][j] [u1, u2][j] true
  | 0, _, _ => e1
  | 1, _, _ => e2
  | j + 2, h1, _ => absurd h1 (by simp)
theorem tup2 {a b : Addr} {v1 v2 u1 u2 : Value} (N : News h₀ L s.heap news) (ha : (a, tupOf [v1, v2]) ∈ news) (hb : (b, tupOf [u1, u2]) ∈ news) (e1 : PySem.SeqAt.EqAt A.in1 s v1 u1 true) (e2 : PySem.SeqAt.EqAt A.in1 s v2 u2 true) (hu : A.units < cLine) : PySem.SeqAt.EqAt A s (.ref a) (.ref b) true := by
  by_cases e : a = b
  · subst e
    exact PySem.SeqAt.EqAt.same _
  · have z := PySem.SeqAt.RcAt.tuples (A := A) (s := s) (l := a) (b := b) (items := [v1, v2].toArray) (items2 := [u1, u2].toArray) (e := fun _ => true) ⟨_, (N _ ha).1, rfl, _, rfl⟩ ⟨_, (N _ hb).1, rfl, _, rfl⟩ hu (fun j q1 q2 => by
      have z := tup2_at e1 e2 j (by simpa using q1) (by simpa using q2)
      simpa using z)
    exact PySem.SeqAt.EqAt.of_refs e z
theorem str_at {x : Str} {t u : Tok} : PySem.SeqAt.EqAt A s (.str x t) (.str x u) true := by
  have z := PySem.SeqAt.EqAt.str_str (A := A) (s := s) x t x u
  rw [beq_self_eq_true] at z
  exact z
theorem eq_text {a b x y u v : Addr} {n k : Nat} {r s1 s2 : Str} {t1 t2 t3 t4 t5 t6 : Tok} {Q : Value → Shared → Prop} (N : News h₀ L s.heap news) (ha : (a, W.listOf #[.ref x] n) ∈ news) (hb : (b, W.listOf #[.ref y] k) ∈ news)
    (hx : (x, tupOf [.str s1 t1, .ref u]) ∈ news) (hy : (y, tupOf [.str s1 t2, .ref v]) ∈ news) (hu : (u, tupOf [.str s2 t3, .str r t5]) ∈ news) (hv : (v, tupOf [.str s2 t4, .str r t6]) ∈ news)
    (u0 : A.units < cLine) (u1 : A.in1.units < cLine) (u2 : A.in1.in1.units < cLine) (h : Q (.bool true) s) : wpAny (model prog w) A (compareOp .Eq (.ref a) (.ref b)) Q E s := by
  refine PySem.SeqAt.eq_listAt (e := fun _ => true) ⟨_, N.get ha, rfl, _, rfl⟩ ⟨_, N.get hb, rfl, _, rfl⟩ rfl u0 (fun j q1 q2 => ?_) h
  obtain rfl : j = 0 := by simpa using q1
  exact tup2 N hx hy str_at (tup2 N hu hv str_at str_at u2) u1
end
theorem regTT1 : True := by
  k_with "w compareOp Eq ref ref" => ((fail_if_success k_extra "off TT"); (((refine Halt.out ?_))))
  k_with "w exec Try" => ((fail_if_success k_extra "off TT"); (((k_here; (with_reducible show wpAny _ _ (exec (Stmt.Try _ (_ :: _) _ [] _) _) _ _ _); refine wpAny_Try_except ?_))))
  k_with "w call ref" => ((fail_if_success k_extra "off TT"); ((((with_reducible show wpAny _ _ (call (Value.ref 462) _) _ _ _); (refine Halt.out ?_)))))
  trivial
section
variable {w : World} {dp un : Nat} {gd : Option (List Code)} {outer : List Env} {A₀ : Around} {base g g₀ : Heap} {L : Addr} {h : Heap} {o : Shared} {k : Nat} {p : Program} {loose : List Str} {mean : ExcName → Option Value} {mg mb : Str → Option Value} {E : Value → Shared → Prop}
    {sc : Scope} {bd : List Stmt} {tl : Led} {mm : Str → Option Value}
theorem textS3 {n gp j : Nat} {t tg tx tr : Tok} {x r : Str} {ws : List Nat} {e : Int} (e1 : scopeAt w 790 = sc) (e2 : stmtsAt w 790 = bd) (hn : n ≤ 2001) (hg : gp < 4) (hp : Page x gp j ws e r) (hr : r.length = n)
    (hdp : dp + 64 ≤ recursionLimit) (hun : un + 640 < cLine + 3)
    (B : Below A₀ base outer g) (X : (Mine.K w.params).In g) (T : Top p loose mean mg mb g) (XB : (Mine.K w.params).In base) (TB : Top p loose mean mg mb base) (D : KtsDicts (outer.filterMap (·.frame)) g)
    (F : Fr g L h (kstB mm [(Str.ofString "count", .int (n : Int) t), (Str.ofString "gap", .str (gapS gp) tg), (Str.ofString "page", .str x tx), (Str.ofString "due", .str r tr)])) (N : News g L h [(780, tabObj #[])]) :
    wpAny (model PySem.Challenge.rw_qd0072_01.row.prog w) (trA dp un gd sc L outer) (execs (bd.drop 3) (trE sc L)) (EndedT (LPost 780) g (outer.filterMap (·.frame)) L o) E (SH o h k) := by
  have he : FnEnv (trE sc L) L := ⟨_, _, _, _, _, rfl, by rw [← e1]; rfl⟩
  refine' with_lit (w := w) (f := 790) ?ho ?kk
  case ho => k_is
  case' kk => intro f1 f2
  obtain rfl := e1.symm.trans f1
  obtain rfl := e2.symm.trans f2
  clear f1 f2 e1 e2
  dsimp only [List.drop]
  have hMk : KstMark := kstMark
  have hgl : (gapS gp).length = gp := by rw [gapS_is]; show (List.replicate gp 32).toArray.size = gp; simp
  generalize hgs : gapS gp = gs at *
  dsimp only [kstB] at F
  k_steps
  refine Halt.go ?_
  refine callBT (parse_b hp (news := [(780, tabObj #[])]) (.head _)) B F X N T rfl (by omega) (by omega) (fun v l h9 tk9 hP9 F9 N9 => ?_) fun i e9 D9 h9 tk9 fl => ?_
  · obtain ⟨i9, hle, -, rfl, rfl⟩ := hP9
    dsimp only [List.cons_append, List.nil_append] at N9
    k_steps
    refine Halt.go ?_
    rename Fr _ _ _ _ => F8
    rename News _ _ _ _ => N8
    refine' eq_text N8 ?a1 ?a2 ?a3 ?a4 ?a5 ?a6 ?a7 ?a8 ?a9 ?_
    case a1 => k_mem
    case a2 => k_mem
    case a3 => k_mem
    case a4 => k_mem
    case a5 => k_mem
    case a6 => k_mem
    case a7 => ktr_units
    case a8 => ktr_units
    case a9 => (simp only [Around.in1]; omega)
    exact EndedT.ret KtsTurn.refl ⟨rfl, _, by k_mem⟩ F8 N8
  · have hlt := i.1.down
    clear N F
    refine caughtXas (KF := Mine.K w.params) fl rfl B XB TB D (gf_ActionError (w := w)).go (by kernel_rfl) rfl rfl (by kernel_rfl) rfl (fun v s q => q) fun h8 g8 oe k8 T8 F8 N8 c8 d8 v8 K8 X8 P8 D8 => ?_
    have n8 : notCls oe = true := by obtain ⟨vs, hvs⟩ := v8; unfold notCls; rw [hvs]
    dsimp only [kpE] at N8
    k_steps
    refine' fault_at ?F1 X8 ?N1 ?p1 ?q1 c8 d8 n8 ?g1 ?h1 ?_
    case F1 => exact F8
    case N1 => exact N8
    case p1 => exact (.head _)
    case q1 => exact (.tail _ <| .head _)
    case g1 => exact rfl
    case h1 => exact rfl
    k_steps
    refine' fault_at ?F2 X8 ?N2 ?p2 ?q2 c8 d8 n8 ?g2 ?h2 ?_
    case F2 => exact F8
    case N2 => exact N8
    case p2 => exact (.head _)
    case q2 => exact (.tail _ <| .head _)
    case g2 => exact rfl
    case h2 => exact rfl
    refine' oe_atI ?F3 X8 ?N3 ?p3 ?q3 af_46_offset ?g3 ?h3 ?_
    case F3 => exact F8
    case N3 => exact N8
    case p3 => exact (.tail _ <| .tail _ <| .head _)
    case q3 => exact (.tail _ <| .tail _ <| .tail _ <| .head _)
    case g3 => exact rfl
    case h3 => exact rfl
    k_steps
    have e9 : (((gp + 5 : Nat) : Int) == (gs.length : Int) + 5) = true := by rw [beq_iff_eq, hgl]; omega
    rw [e9]
    exact ⟨_, rfl, EndedT.ret T8 ⟨rfl, _, by k_mem⟩ F8 N8⟩
end
end
theorem offTT : True := by
  k_with "off TT" => skip
  trivial
section
theorem bodyIsT {w : World} {bd : List Stmt} (e2 : stmtsAt w 790 = bd) : bd = bd.headD default :: bd.getD 1 default :: bd.getD 2 default :: bd.drop 3 := by
  refine' with_lit (w := w) (f := 790) ?ho ?kk
  case ho => k_is
  case' kk => intro f1 f2
  obtain rfl := e2.symm.trans f2
  rfl
section
variable {w : World} {dp un : Nat} {gd : Option (List Code)} {outer : List Env} {A₀ : Around} {base g : Heap} {L : Addr} {h : Heap} {o : Shared} {k : Nat} {p : Program} {loose : List Str} {mean : ExcName → Option Value} {mg mb : Str → Option Value} {E : Value → Shared → Prop}
    {sc : Scope} {bd : List Stmt} {mm : Str → Option Value} {pn c : Addr} {sp z : Int} {t1 t2 : Tok} {vs : List Value} {ns : List Int} {n1 n2 : Nat}
theorem textAll (e1 : scopeAt w 790 = sc) (e2 : stmtsAt w 790 = bd) (hi : IntsAre vs ns) (h0 : 0 ≤ sp) (h9 : sp ≤ 7) (hl : ns.length ≤ 63) (hz : 0 ≤ z) (hz9 : z < 1000) (hc : @Ne Nat c pn) (hP : @Ne Nat 780 pn)
    (hdp : dp + 64 ≤ recursionLimit) (hun : un + 640 < cLine + 3)
    (B : Below A₀ base outer g) (X : (Mine.K w.params).In g) (T : Top p loose mean mg mb g) (XB : (Mine.K w.params).In base) (TB : Top p loose mean mg mb base) (D : KtsDicts (outer.filterMap (·.frame)) g)
    (F : Fr g L h (kstB mm [(Str.ofString "pen", Value.ref pn)])) (N : News g L h ((pn, W.listOf #[.ref c, .int sp t1, .int z t2] n1) :: (c, W.listOf vs.toArray n2) :: (780, tabObj #[]) :: [])) :
    wpAny (model PySem.Challenge.rw_qd0072_01.row.prog w) (trA dp un gd sc L outer) (execs bd (trE sc L)) (EndedT (LPost 780) g (outer.filterMap (·.frame)) L o) E (SH o h k) := by
  rw [bodyIsT e2]
  refine seqC (textS0 e1 e2 hi h0 h9 hl hz hz9 hc hP (by omega) (by omega) B X T F N) fun s1 M1 => ?_
  obtain ⟨n, gp, t, tg, t3, hn, hg, M1⟩ := M1
  obtain ⟨h1, k1, m1, rfl, F1, N1⟩ := M1.open
  refine seqC (textS1 e1 e2 hi (by omega) (by omega) hl hz hz9 hc hP (by omega) (by omega) B X T F1 N1) fun s2 M2 => ?_
  obtain ⟨sh, wo, ts, tw, hs, M2⟩ := M2
  obtain ⟨h2, k2, m2, rfl, F2, N2⟩ := M2.open
  refine seqC (textS2 e1 e2 hn hg hs (by omega) (by omega) B X T F2 N2) fun s3 M3 => ?_
  obtain ⟨x, r, tx, tr, j, ws, e, hp, hr, M3⟩ := M3
  obtain ⟨h3, k3, m3, rfl, F3, N3⟩ := M3.open
  exact @textS3 _ _ _ _ _ _ _ _ _ _ _ _ _ _ _ _ _ _ _ _ _ _ _ _ _ _ _ _ _ _ _ _ e1 e2 (by omega) hg hp hr hdp hun B X T XB TB D F3 N3
end
theorem text_right_t {w : World} {pn c : Addr} {sp z : Int} {t1 t2 : Tok} {vs : List Value} {ns : List Int} {n1 n2 : Nat}
    (hi : IntsAre vs ns) (h0 : 0 ≤ sp) (h9 : sp ≤ 7) (hl : ns.length ≤ 63) (hz : 0 ≤ z) (hz9 : z < 1000) (hc : @Ne Nat c pn) (hP : @Ne Nat 780 pn) :
    CtT w 790 [.ref pn] 64 640 ((pn, W.listOf #[.ref c, .int sp t1, .int z t2] n1) :: (c, W.listOf vs.toArray n2) :: (780, tabObj #[]) :: []) (LPost 780) := by
  refine' CtT.of [(Str.ofString "pen", .ref pn)] ?ho ?hcd ?hb ?hl ?hco ?hg ?hk ?hc ?bd
  case ho => k_is
  case hcd => k_is
  case hb => exact fun s9 X9 => by first | exact BindsTo.of_eq rfl | exact binds_K X9 rfl (by k_is) rfl rfl rfl
  case hl => exact locs rfl
  case hco => rfl
  case hg => rfl
  case hk => rfl
  case hc => rfl
  case' bd => (intro dp un gd outer A₀ base g L h o k p loose mean mg mb E B F X N T XB TB D hdp hun he hE; k_fold; have hEO := envOk he (by kernel_rfl); (try have hBO := bindsOk F (by kernel_rfl)); have hMk : KstMark := kstMark)
  refine' with_lit (w := w) (f := 790) ?ho9 ?kk9
  case ho9 => k_is
  case' kk9 => intro f1 f2
  have F2 := Fr.kst (ps := [(Str.ofString "pen", Value.ref pn)]) F (by kst_all)
  exact @textAll _ _ _ _ _ _ _ _ _ _ _ _ _ _ _ _ _ _ _ _ _ _ _ _ _ _ _ _ _ _ _ f1 f2 hi h0 h9 hl hz hz9 hc hP hdp hun B X T XB TB D F2 N
end
section
theorem turn_fr {g g' h : Heap} {L : Addr} {m : Str → Option Value} (T : KtsTurn [] g g') (F : Fr g' L h m) : Fr g L h m := ⟨F.ns, fun b o e => F.keep b o (T.other b o e (by simp)), by rw [← T.size]; exact F.above⟩
theorem turn_news {g g' h : Heap} {L : Addr} {l : Led} (T : KtsTurn [] g g') (N : News g' L h l) : News g L h l := fun q hq => ⟨(N q hq).1, (N q hq).2.1, by
  cases e : g.get? q.1 with
  | none => rfl
  | some o => have := T.other _ _ e (by simp); rw [(N q hq).2.2] at this; cases this⟩
theorem callTop {w : World} {f : Addr} {vs : List Value} {led : Led} {nm : Str} {sc : Scope} {L fa : Addr} {cd : Value} {g h : Heap} {m : Str → Option Value} {o : Shared} {k : Nat} {Q E : Value → Shared → Prop} {p : Program} {loose : List Str} {mean : ExcName → Option Value} {mg mb : Str → Option Value} {d u : Nat}
    (H : CtT w f vs d u led (LPost 780)) (hd : d ≤ 100) (hu : u ≤ 1000) (hk : sc.kind = .function)
    (B : Below callerA g [] g) (F : Fr g L h m) (X : (Mine.K w.params).In g) (N : News g L h led) (T : Top p loose mean mg mb g)
    (ret : ∀ h' tk' ps, Fr g L h' m → News g L h' [(780, tabObj ps)] → Q (.bool true) (SH o h' tk')) :
    wpAny (model PySem.Challenge.rw_qd0072_01.row.prog w) (callerA.deeper (envOf nm sc L fa cd)) (call (.ref f) vs) Q E (SH o h k) := by
  have e : callerA.deeper (envOf nm sc L fa cd) = ktrTop (callerA.deeper (envOf nm sc L fa cd)).depth (callerA.deeper (envOf nm sc L fa cd)).units (callerA.deeper (envOf nm sc L fa cd)).guards nm sc L fa cd [] [] := rfl
  rw [e]
  have h1 : (callerA.deeper (envOf nm sc L fa cd)).depth + 101 ≤ recursionLimit := Nat.le_of_ble_eq_true rfl
  have h2 : (callerA.deeper (envOf nm sc L fa cd)).units + 1001 ≤ cLine := Nat.le_of_ble_eq_true rfl
  refine callT H B F X N T X T ktsDicts_nil hk (by omega) (by omega) fun r news' h' tk' h₀' T₁ hp F₁ N₁ B₁ X₁ P₁ => ?_
  obtain ⟨rfl, ps, hm⟩ := hp
  exact ret h' tk' ps (turn_fr T₁ F₁) (turn_news T₁ fun q hq => N₁ q (by rw [List.mem_singleton.mp hq]; exact hm))
end
section
theorem off_top : True := by
  k_with "off top" => skip
  trivial
theorem regLW1 : True := by
  k_with "w call ref" => ((fail_if_success k_extra "off LW"); (((k_here; (with_reducible show wpAny _ _ (call (Value.ref 771) _) _ _ _); k_dflt (refine' call1 (fun rest hr => draw_d ?hzs0 ?hzs1 ?hzs2 ?hzs3 ?hzs4 ?hzs5 ?hzs6 ?hzs7 ?hzs8 rest hr) ?hzkB ?hzkF ?hzkX ?hzkN ?hzkT ?hzkk ?hzkd ?hzku ?hzkx ?hzkr ?hzkU ?_; k_extra "D com1"; (case hzs8 => k_extra "D side"); (case hzs7 => k_extra "D side"); (case hzs6 => k_extra "D side"); (case hzs5 => k_extra "D side"); (case hzs4 => k_extra "D side"); (case hzs3 => k_extra "D side"); (case hzs2 => k_extra "D side"); (case hzs1 => k_extra "D side"); (case hzs0 => k_extra "D side")); k_extra "D fin"))))
  k_with "w call ref" => ((fail_if_success k_extra "off LW"); ((((with_reducible show wpAny _ _ (call (Value.ref 783) _) _ _ _); (refine Halt.out ?_)))))
  k_with "w call ref" => ((fail_if_success k_extra "off LW"); ((((with_reducible show wpAny _ _ (call (Value.ref 790) _) _ _ _); (refine Halt.out ?_)))))
  trivial
theorem holds : PySem.Challenge.rw_qd0072_01.Holds := by
  refine hdw ?_
  intro w s₀ s₁ mg mb G Y fa o pm cd doc dV kV ho hd hcd hD hmg hg args vals as hpre hlay hrd hwl hlo
  have KX := km_in_of Y
  km_tabs Y
  have X := (Ground.X G).1
  have V := (Ground.X G).2
  refine Ground.open G ?_
  intro T B D TE TW
  try (refine guard_noD D (by decide +kernel) ?_; clear D)
  replace hmg : mg (PySem.Str.ofString "law") = _ := hmg
  km_lay T hmg ho hd cd
  clear hmg
  wrow_args hpre hlay hrd hwl hlo
  all_goals (first | refine callC_kw (enter_call ?_) | refine enter_call ?_)
  w_top on
  kn_posts
  w_call any ho hd hcd hD T F
  clear hd
  kn_ghosts F T
  k_drop
  (all_goals try k_fold)
  k_steps
  all_goals (refine Halt.go ?_; rename Fr _ _ _ _ => F9; rename News _ _ _ _ => N9; rename IntsAre _ (List.map _ _) => hI9; rename Frag.In _ (ghostOf _ _) => X9; rename Top _ _ _ _ _ (ghostOf _ _) => T9; rename Below _ _ _ (ghostOf _ _) => B9)
  all_goals first
    | (with_reducible show wpAny _ _ (call (Value.ref 790) _) _ _ _
       refine' callTop (d := 64) (u := 640) (text_right_t hI9 ?h0 ?h9 ?hl ?hz ?hz9 ?hc ?hP) (Nat.le_of_ble_eq_true rfl) (Nat.le_of_ble_eq_true rfl) rfl B9 F9 X9 (kst_newsOf N9 ?hN) T9 (fun h8 tk8 ps8 F8 N8 => ?_); (case hN => kcj_all); (case h0 => omega); (case h9 => omega); (case hl => (simp only [List.length_map]; omega)); (case hz => exact fmod_lo _ (by omega)); (case hz9 => exact Int.lt_of_lt_of_le (fmod_hi _ (by omega)) (by omega)); (case hc => (show @Ne Nat _ _; omega)); (case hP => (show @Ne Nat _ _; omega)))
    | (with_reducible show wpAny _ _ (call (Value.ref 783) _) _ _ _
       refine' callTop (d := 60) (u := 600) (list_right_t hI9 ?h0 ?h9 ?hl ?hz ?hz9 ?hc ?hP) (Nat.le_of_ble_eq_true rfl) (Nat.le_of_ble_eq_true rfl) rfl B9 F9 X9 (kst_newsOf N9 ?hN) T9 (fun h8 tk8 ps8 F8 N8 => ?_); (case hN => kcj_all); (case h0 => omega); (case h9 => omega); (case hl => (simp only [List.length_map]; omega)); (case hz => exact fmod_lo _ (by omega)); (case hz9 => exact Int.lt_of_lt_of_le (fmod_hi _ (by omega)) (by omega)); (case hc => (show @Ne Nat _ _; omega)); (case hP => (show @Ne Nat _ _; omega)))
  all_goals (clear F9 N9; refine ⟨?_, And.intro (GrownAt.of N8 (.head _)) True.intro⟩)
  all_goals k_steps
end
theorem offLW : True := by
  k_with "off LW" => skip
  trivial
end Mine
theorem PySem.Challenge.cw_qd0072_01_holds : PySem.Challenge.rw_qd0072_01.Holds := by
  exact Mine.holds
