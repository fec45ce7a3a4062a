/- Plain laws about what the functions compute. -/
import Derived.Test.YtoffmgdfckngnaaOnetimeSplitsP
/- One-time signatures: the digits of a word. -/
namespace Go.Vm

def dig (m : Int) (i : Nat) : Int := m / 2 ^ (60 - 4 * i) % 16
def digSum (m : Int) : Nat → Int
  | 0 => 0
  | n + 1 => digSum m n + (15 - dig m n)
theorem dig_range (m : Int) (i : Nat) : 0 ≤ dig m i ∧ dig m i ≤ 15 := by unfold dig; omega
theorem digSum_range (m : Int) : ∀ n : Nat, 0 ≤ digSum m n ∧ digSum m n ≤ 15 * n
  | 0 => by simp [digSum]
  | n + 1 => by
    have := digSum_range m n
    have := dig_range m n
    simp only [digSum]
    omega
/-- The digits of a word. -/
def splitL (m : Int) : List Int := (List.range 16).map (dig m) ++ [digSum m 16 / 16, digSum m 16 % 16]
theorem splitL_len (m : Int) : (splitL m).length = 18 := by simp [splitL]

theorem dig_shr (m : Int) {i : Nat} (hi : i < 16) : iConv .i64 (iAnd .u64 (iShr .u64 m (iSub .i64 60 (iMul .i64 4 (i : Int)))) 15) = dig m i := by
  rw [mul_i64 (by omega), sub_i64 (by omega)]
  have e : (60 : Int) - 4 * (i : Int) = ((60 - 4 * i : Nat) : Int) := by omega
  rw [e, shr_eq _ _ _ (by simp [IntKind.bits]; omega), and_15 _ _ (by decide)]
  exact conv_i64 (by omega)

theorem split_eq {m : Int} : sh_onetime_split m = some (arrOf 18 0 (splitL m)) := by
  unfold sh_onetime_split
  refine jn_count (fun i => (arrOf 18 0 ((List.range i).map (dig m)), m, digSum m i, (i : Int))) 16 (arrOf 18 0 ((List.range 16).map (dig m)), digSum m 16) rfl (fun i hi => ?_) (by rw [if_neg (by simp [bLt])]) ?_
  rotate_left
  · simp only [bnd_eq]
    rw [reqP_pos (by omega), arrWr_arrOf (by simp) (by simp), reqP_pos (by omega), arrWr_arrOf (by simp) (by simp)]
    have := digSum_range m 16
    rw [quo_i64 (by omega) (by omega), rem_nonneg _ (by omega), List.append_assoc]
    rfl
  · have h1 := dig_range m i
    have h2 := digSum_range m i
    simp only [bLt_true (show (i : Int) < 16 by omega), if_true]
    simp only [bnd_eq]
    rw [reqP_pos (by rw [mul_i64 (by omega), sub_i64 (by omega)]; omega), reqP_pos (by omega), reqP_pos (by omega), dig_shr m hi, arrWr_arrOf (by simp) (by simp; omega), ← range_map_snoc, arrRd_arrOf (by simp) (by simp; omega), getD_map_range (by omega)]
    rw [sub_i64 (by omega), add_i64 (by omega), add_i64 (by omega)]
    rfl

theorem Split_eq (m : Int) : sh_onetime_Split m = some (splitL m) := by
  unfold sh_onetime_Split
  rw [split_eq, Option.bind_some, arrOf_val (splitL_len m)]

theorem refSplit_eq (m : Int) : sh_passkeyref3_Split m = some (splitL m) := by
  unfold sh_passkeyref3_Split
  refine jn_count (fun i => ((List.range i).map (dig m), m, digSum m i, 15 - (i : Int))) 16 ((List.range 16).map (dig m), digSum m 16) rfl (fun i hi => ?_) (by rw [if_neg (by simp [bGe])]) ?_
  rotate_left
  · simp only [bnd_eq]
    rw [reqP_pos (by simp)]
    have := digSum_range m 16
    rw [quo_i64 (by omega) (by omega), rem_nonneg _ (by omega)]
    rfl
  · have h1 := dig_range m i
    have h2 := digSum_range m i
    simp only [bGe_true (show (15 : Int) - (i : Int) ≥ 0 by omega), if_true]
    have e : iConv .u64 (iMul .i64 4 (15 - (i : Int))) = ((60 - 4 * i : Nat) : Int) := by
      rw [mul_i64 (by omega), conv_u64_id (by omega)]
      omega
    have e2 : iConv .i64 (iAnd .u64 (iShr .u64 m ((60 - 4 * i : Nat) : Int)) 15) = dig m i := by
      rw [shr_eq _ _ _ (by simp [IntKind.bits]; omega), and_15 _ _ (by decide)]
      exact conv_i64 (by omega)
    rw [e, reqP_pos (by omega), e2]
    simp only [bnd_eq]
    rw [reqP_pos (by simp; omega), sub_i64 (by omega), add_i64 (by omega), sub_i64 (by omega)]
    have e3 : (15 : Int) - (i : Int) - 1 = 15 - ((i + 1 : Nat) : Int) := by omega
    rw [e3, range_map_snoc]
    rfl

theorem ints_eq (l : List Int) (h : l.length ≤ 9223372036854775807) : sh_passkeylaw3_ints (l, l) = some true := by
  unfold sh_passkeylaw3_ints
  simp only [bNe_self, Bool.false_eq_true, if_false]
  refine jn_count (fun i => (l, l, (i : Int))) l.length () rfl (fun i hi => ?_) (by simp [bLt]) rfl
  · simp only [bLt_true (show (i : Int) < (l.length : Int) by omega), if_true]
    rw [atL_nat (List.getElem?_eq_getElem hi), atL_nat (List.getElem?_eq_getElem hi), bNe_self, add_i64 (by omega)]
    rfl

theorem Run_stop (a b c d x : Int) (h : min d 15 ≤ c) (hc : 0 ≤ c) : sh_onetime_Run (a, b, c, d, x) = some x := by
  unfold sh_onetime_Run
  have h1 : iMax c 0 = c := by unfold iMax; rw [if_neg (by omega)]
  have h2 : ¬ bLt c (iMin d 15) = true := by
    unfold bLt iMin
    split <;> simp <;> omega
  simp only [h1, bnd_eq]
  rw [loopLim_end (a := .inl x) (by simp only; rw [if_neg h2])]
  rfl

theorem split0 : splitL 0 = [0, 0, 0, 0, 0, 0, 0, 0, 0, 0, 0, 0, 0, 0, 0, 0, 15, 0] := by decide
theorem splitM : splitL 18446744073709551615 = [15, 15, 15, 15, 15, 15, 15, 15, 15, 15, 15, 15, 15, 15, 15, 15, 0, 0] := by decide

theorem awake3 : sh_passkeylaw3_awake () = some true := by
  unfold sh_passkeylaw3_awake
  simp only [Split_eq, Option.bind_some, split0, splitM, Run_stop 1 2 5 5 9 (by decide) (by decide)]
  decide

theorem OnetimeSplits_true (x : Int) : sh_passkeylaw3_OnetimeSplits x = some true := by
  unfold sh_passkeylaw3_OnetimeSplits
  simp only [Split_eq, refSplit_eq, Option.bind_some, ints_eq (splitL x) (by rw [splitL_len]; decide), if_true, awake3]
end Go.Vm
