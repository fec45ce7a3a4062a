/- Plain laws about what the functions compute. -/
import Derived.Test.YtleemhgnapoofaaLeaseCodesP
/- One-time signatures: the digits of a word. -/
namespace Go.Vm

def dig (m : Int) (i : Nat) : Int := m / 2 ^ (60 - 4 * i) % 16
def digSum (m : Int) : Nat → Int
  | 0 => 0
  | n + 1 => digSum m n + (15 - dig m n)
theorem dig_range (m : Int) (i : Nat) : 0 ≤ dig m i ∧ dig m i ≤ 15 := by unfold dig; omega
theorem digSum_range (m : Int) : ∀ n : Nat, 0 ≤ digSum m n ∧ digSum m n ≤ 15 * n
  | 0 => by simp [digSum]
  | n + 1 => by
    have := digSum_range m n
    have := dig_range m n
    simp only [digSum]
    omega
/-- The digits of a word. -/
def splitL (m : Int) : List Int := (List.range 16).map (dig m) ++ [digSum m 16 / 16, digSum m 16 % 16]
theorem splitL_len (m : Int) : (splitL m).length = 18 := by simp [splitL]

theorem dig_shr (m : Int) {i : Nat} (hi : i < 16) : iConv .i64 (iAnd .u64 (iShr .u64 m (iSub .i64 60 (iMul .i64 4 (i : Int)))) 15) = dig m i := by
  rw [mul_i64 (by omega), sub_i64 (by omega)]
  have e : (60 : Int) - 4 * (i : Int) = ((60 - 4 * i : Nat) : Int) := by omega
  rw [e, shr_eq _ _ _ (by simp [IntKind.bits]; omega), and_15 _ _ (by decide)]
  exact conv_i64 (by omega)

theorem split_eq {m : Int} : sh_onetime_split m = some (arrOf 18 0 (splitL m)) := by
  unfold sh_onetime_split
  refine jn_count (fun i => (arrOf 18 0 ((List.range i).map (dig m)), m, digSum m i, (i : Int))) 16 (arrOf 18 0 ((List.range 16).map (dig m)), digSum m 16) rfl (fun i hi => ?_) (by rw [if_neg (by simp [bLt])]) ?_
  rotate_left
  · simp only [bnd_eq]
    rw [reqP_pos (by omega), arrWr_arrOf (by simp) (by simp), reqP_pos (by omega), arrWr_arrOf (by simp) (by simp)]
    have := digSum_range m 16
    rw [quo_i64 (by omega) (by omega), rem_nonneg _ (by omega), List.append_assoc]
    rfl
  · have h1 := dig_range m i
    have h2 := digSum_range m i
    simp only [bLt_true (show (i : Int) < 16 by omega), if_true]
    simp only [bnd_eq]
    rw [reqP_pos (by rw [mul_i64 (by omega), sub_i64 (by omega)]; omega), reqP_pos (by omega), reqP_pos (by omega), dig_shr m hi, arrWr_arrOf (by simp) (by simp; omega), ← range_map_snoc, arrRd_arrOf (by simp) (by simp; omega), getD_map_range (by omega)]
    rw [sub_i64 (by omega), add_i64 (by omega), add_i64 (by omega)]
    rfl

theorem Split_eq (m : Int) : sh_onetime_Split m = some (splitL m) := by
  unfold sh_onetime_Split
  rw [split_eq, Option.bind_some, arrOf_val (splitL_len m)]

theorem refSplit_eq (m : Int) : sh_passkeyref3_Split m = some (splitL m) := by
  unfold sh_passkeyref3_Split
  refine jn_count (fun i => ((List.range i).map (dig m), m, digSum m i, 15 - (i : Int))) 16 ((List.range 16).map (dig m), digSum m 16) rfl (fun i hi => ?_) (by rw [if_neg (by simp [bGe])]) ?_
  rotate_left
  · simp only [bnd_eq]
    rw [reqP_pos (by simp)]
    have := digSum_range m 16
    rw [quo_i64 (by omega) (by omega), rem_nonneg _ (by omega)]
    rfl
  · have h1 := dig_range m i
    have h2 := digSum_range m i
    simp only [bGe_true (show (15 : Int) - (i : Int) ≥ 0 by omega), if_true]
    have e : iConv .u64 (iMul .i64 4 (15 - (i : Int))) = ((60 - 4 * i : Nat) : Int) := by
      rw [mul_i64 (by omega), conv_u64_id (by omega)]
      omega
    have e2 : iConv .i64 (iAnd .u64 (iShr .u64 m ((60 - 4 * i : Nat) : Int)) 15) = dig m i := by
      rw [shr_eq _ _ _ (by simp [IntKind.bits]; omega), and_15 _ _ (by decide)]
      exact conv_i64 (by omega)
    rw [e, reqP_pos (by omega), e2]
    simp only [bnd_eq]
    rw [reqP_pos (by simp; omega), sub_i64 (by omega), add_i64 (by omega), sub_i64 (by omega)]
    have e3 : (15 : Int) - (i : Int) - 1 = 15 - ((i + 1 : Nat) : Int) := by omega
    rw [e3, range_map_snoc]
    rfl

theorem ints_eq (l : List Int) (h : l.length ≤ 9223372036854775807) : sh_passkeylaw3_ints (l, l) = some true := by
  unfold sh_passkeylaw3_ints
  simp only [bNe_self, Bool.false_eq_true, if_false]
  refine jn_count (fun i => (l, l, (i : Int))) l.length () rfl (fun i hi => ?_) (by simp [bLt]) rfl
  · simp only [bLt_true (show (i : Int) < (l.length : Int) by omega), if_true]
    rw [atL_nat (List.getElem?_eq_getElem hi), atL_nat (List.getElem?_eq_getElem hi), bNe_self, add_i64 (by omega)]
    rfl

theorem Run_stop (a b c d x : Int) (h : min d 15 ≤ c) (hc : 0 ≤ c) : sh_onetime_Run (a, b, c, d, x) = some x := by
  unfold sh_onetime_Run
  have h1 : iMax c 0 = c := by unfold iMax; rw [if_neg (by omega)]
  have h2 : ¬ bLt c (iMin d 15) = true := by
    unfold bLt iMin
    split <;> simp <;> omega
  simp only [h1, bnd_eq]
  rw [loopLim_end (a := .inl x) (by simp only; rw [if_neg h2])]
  rfl

theorem split0 : splitL 0 = [0, 0, 0, 0, 0, 0, 0, 0, 0, 0, 0, 0, 0, 0, 0, 0, 15, 0] := by decide
theorem splitM : splitL 18446744073709551615 = [15, 15, 15, 15, 15, 15, 15, 15, 15, 15, 15, 15, 15, 15, 15, 15, 0, 0] := by decide

theorem awake3 : sh_passkeylaw3_awake () = some true := by
  unfold sh_passkeylaw3_awake
  simp only [Split_eq, Option.bind_some, split0, splitM, Run_stop 1 2 5 5 9 (by decide) (by decide)]
  decide

theorem OnetimeSplits_true (x : Int) : sh_passkeylaw3_OnetimeSplits x = some true := by
  unfold sh_passkeylaw3_OnetimeSplits
  simp only [Split_eq, refSplit_eq, Option.bind_some, ints_eq (splitL x) (by rw [splitL_len]; decide), if_true, awake3]
end Go.Vm
/- The hash: program and reference compute the same. -/
namespace Go.Vm

def rotl (x : Int) (k : Nat) : Int := iOr .u64 (iShl .u64 x (k : Int)) (iShr .u64 x ((64 - k : Nat) : Int))
/-- The state of the hash. -/
structure Sip where
  a : Int
  b : Int
  c : Int
  d : Int
def Sip.t (v : Sip) : Int × Int × Int × Int := (v.a, v.b, v.c, v.d)
def Sip.arr (v : Sip) : Arr 4 Int := ⟨[v.a, v.b, v.c, v.d], rfl⟩
def Sip.round (v : Sip) : Sip :=
  let a1 := iAdd .u64 v.a v.b
  let b1 := iXor .u64 (rotl v.b 13) a1
  let a2 := rotl a1 32
  let c1 := iAdd .u64 v.c v.d
  let d1 := iXor .u64 (rotl v.d 16) c1
  let a3 := iAdd .u64 a2 d1
  let d2 := iXor .u64 (rotl d1 21) a3
  let c2 := iAdd .u64 c1 b1
  let b2 := iXor .u64 (rotl b1 17) c2
  ⟨a3, b2, rotl c2 32, d2⟩
def Sip.rounds (v : Sip) : Nat → Sip
  | 0 => v
  | n + 1 => (v.rounds n).round
def Sip.word (v : Sip) (m : Int) : Sip :=
  let v := (⟨v.a, v.b, v.c, iXor .u64 v.d m⟩ : Sip).round.round
  ⟨iXor .u64 v.a m, v.b, v.c, v.d⟩
def Sip.last (v : Sip) : Int :=
  let v := (⟨v.a, v.b, iXor .u64 v.c 255, v.d⟩ : Sip).round.round.round.round
  iXor .u64 (iXor .u64 (iXor .u64 v.a v.b) v.c) v.d

theorem RotateLeft_eq (x : Int) (k : Nat) (h : k < 64) : sh_math_bits_RotateLeft64 (x, (k : Int)) = some (rotl x k) := by
  unfold sh_math_bits_RotateLeft64
  have e : iAnd .u64 (iConv .u64 (k : Int)) 63 = (k : Int) := by
    rw [conv_u64_id (by omega), and_63 _ _ (by decide)]
    omega
  have e2 : iSub .u64 64 (k : Int) = ((64 - k : Nat) : Int) := by
    unfold iSub
    rw [wrap_u64_id (by omega)]
    omega
  simp only [bnd_eq, e, e2]
  rw [reqP_pos (by omega), reqP_pos (by omega)]
  rfl
theorem refRotl_eq (x : Int) (k : Nat) (h : k < 64) : sh_passkeyref1_rotl (x, (k : Int)) = some (rotl x k) := by
  unfold sh_passkeyref1_rotl
  have e2 : iSub .u64 64 (k : Int) = ((64 - k : Nat) : Int) := by
    unfold iSub
    rw [wrap_u64_id (by omega)]
    omega
  simp only [bnd_eq, e2]
  rw [reqP_pos (by omega), reqP_pos (by omega)]
  rfl

theorem round_eq (v : Sip) (n : Nat) (hn : n < 100) : sh___passkey_digest_state__round (v.a, v.b, v.c, v.d, (n : Int)) = some (v.rounds n).t := by
  unfold sh___passkey_digest_state__round
  refine jn_count (fun i => ((v.rounds i).a, (v.rounds i).b, (v.rounds i).c, (v.rounds i).d, (n : Int), (i : Int))) n ((v.rounds n).a, (v.rounds n).b, (v.rounds n).c, (v.rounds n).d) rfl (fun i hi => ?_) (by rw [if_neg (by simp [bLt])]) rfl
  simp only [bLt_true (show (i : Int) < (n : Int) by omega), if_true, bnd_eq]
  have r (x : Int) (k : Nat) (h : k < 64) := RotateLeft_eq x k h
  rw [show (13 : Int) = ((13 : Nat) : Int) from rfl, show (32 : Int) = ((32 : Nat) : Int) from rfl, show (16 : Int) = ((16 : Nat) : Int) from rfl, show (21 : Int) = ((21 : Nat) : Int) from rfl, show (17 : Int) = ((17 : Nat) : Int) from rfl]
  simp only [r _ 13 (by omega), r _ 32 (by omega), r _ 16 (by omega), r _ 21 (by omega), r _ 17 (by omega), Option.bind_some]
  rw [add_i64 (by omega)]
  rfl

theorem word_eq (v : Sip) (m : Int) : sh___passkey_digest_state__word (v.a, v.b, v.c, v.d, m) = some (v.word m).t := by
  unfold sh___passkey_digest_state__word
  simp only [bnd_eq]
  have := round_eq ⟨v.a, v.b, v.c, iXor .u64 v.d m⟩ 2 (by omega)
  rw [show ((2 : Nat) : Int) = 2 from rfl] at this
  rw [this]
  rfl

section
variable (a b c d x : Int)
@[simp] theorem rd4_0 : arrRd (0 : Int) (⟨[a, b, c, d], rfl⟩ : Arr 4 Int) 0 = a := rfl
@[simp] theorem rd4_1 : arrRd (0 : Int) (⟨[a, b, c, d], rfl⟩ : Arr 4 Int) 1 = b := rfl
@[simp] theorem rd4_2 : arrRd (0 : Int) (⟨[a, b, c, d], rfl⟩ : Arr 4 Int) 2 = c := rfl
@[simp] theorem rd4_3 : arrRd (0 : Int) (⟨[a, b, c, d], rfl⟩ : Arr 4 Int) 3 = d := rfl
@[simp] theorem wr4_0 : arrWr (⟨[a, b, c, d], rfl⟩ : Arr 4 Int) 0 x = ⟨[x, b, c, d], rfl⟩ := rfl
@[simp] theorem wr4_1 : arrWr (⟨[a, b, c, d], rfl⟩ : Arr 4 Int) 1 x = ⟨[a, x, c, d], rfl⟩ := rfl
@[simp] theorem wr4_2 : arrWr (⟨[a, b, c, d], rfl⟩ : Arr 4 Int) 2 x = ⟨[a, b, x, d], rfl⟩ := rfl
@[simp] theorem wr4_3 : arrWr (⟨[a, b, c, d], rfl⟩ : Arr 4 Int) 3 x = ⟨[a, b, c, x], rfl⟩ := rfl
end
section
variable {ρ : Type} (y : Option ρ)
@[simp] theorem req4_0 : reqP ((0 : Int) ≤ 0 ∧ (0 : Int) < 4) y = y := reqP_pos (by decide) y
@[simp] theorem req4_1 : reqP ((0 : Int) ≤ 1 ∧ (1 : Int) < 4) y = y := reqP_pos (by decide) y
@[simp] theorem req4_2 : reqP ((0 : Int) ≤ 2 ∧ (2 : Int) < 4) y = y := reqP_pos (by decide) y
@[simp] theorem req4_3 : reqP ((0 : Int) ≤ 3 ∧ (3 : Int) < 4) y = y := reqP_pos (by decide) y
end
theorem rotl13 (x : Int) : sh_passkeyref1_rotl (x, 13) = some (rotl x 13) := refRotl_eq x 13 (by omega)
theorem rotl16 (x : Int) : sh_passkeyref1_rotl (x, 16) = some (rotl x 16) := refRotl_eq x 16 (by omega)
theorem rotl17 (x : Int) : sh_passkeyref1_rotl (x, 17) = some (rotl x 17) := refRotl_eq x 17 (by omega)
theorem rotl21 (x : Int) : sh_passkeyref1_rotl (x, 21) = some (rotl x 21) := refRotl_eq x 21 (by omega)
theorem rotl32 (x : Int) : sh_passkeyref1_rotl (x, 32) = some (rotl x 32) := refRotl_eq x 32 (by omega)

theorem refRound_eq (v : Sip) : sh_passkeyref1_round v.arr = some v.round.arr := by
  unfold sh_passkeyref1_round Sip.arr
  simp only [req4_0, req4_1, req4_2, req4_3, bnd_eq, rd4_0, rd4_1, rd4_2, rd4_3, wr4_0, wr4_1, wr4_2, wr4_3, rotl13, rotl16, rotl17, rotl21, rotl32, Option.bind_some]
  rfl

/-! ### Words of bytes, the least first -/
def le : List Int → Int
  | [] => 0
  | x :: l => x + 256 * le l
def Bytes (l : List Int) : Prop := ∀ x ∈ l, 0 ≤ x ∧ x ≤ 255
theorem le_range : ∀ {l : List Int}, Bytes l → 0 ≤ le l ∧ le l < 256 ^ l.length
  | [], _ => by simp [le]
  | x :: l, h => by
    have h1 := h x (.head _)
    have h2 := le_range (l := l) fun y hy => h y (.tail _ hy)
    simp only [le, List.length_cons, Int.pow_succ]
    omega
theorem le_snoc : ∀ (l : List Int) (x : Int), le (l ++ [x]) = le l + 256 ^ l.length * x
  | [], x => by simp [le]
  | y :: l, x => by
    simp only [List.cons_append, le, le_snoc l x, List.length_cons, Int.pow_succ]
    rw [Int.mul_add, ← Int.mul_assoc, Int.mul_comm 256 (256 ^ l.length)]
    omega

theorem or_add (a b : Int) (j : Nat) (h0 : 0 ≤ a) (hb : 0 ≤ b) (hab : a * 2 ^ j ≤ 18446744073709551615) (hlt : b < 2 ^ j) (hj : j < 64) : iOr .u64 (a * 2 ^ j) b = a * 2 ^ j + b := by
  obtain ⟨a, rfl⟩ := Int.eq_ofNat_of_zero_le h0
  obtain ⟨b, rfl⟩ := Int.eq_ofNat_of_zero_le hb
  have e1 : (a : Int) * 2 ^ j = ((a * 2 ^ j : Nat) : Int) := by simp
  have hlt' : b < 2 ^ j := by
    have := pow_cast j
    omega
  have hb64 : b < 2 ^ 64 := Nat.lt_of_lt_of_le hlt' (Nat.pow_le_pow_right (by omega) (by omega))
  rw [e1] at hab ⊢
  unfold iOr
  rw [BitVec.ofInt_natCast, BitVec.ofInt_natCast, BitVec.toNat_or, BitVec.toNat_ofNat, BitVec.toNat_ofNat, Nat.mod_eq_of_lt (by simp only [IntKind.bits]; omega), Nat.mod_eq_of_lt (by simpa only [IntKind.bits] using hb64)]
  have h := Nat.shiftLeft_add_eq_or_of_lt hlt' a
  rw [Nat.shiftLeft_eq] at h
  rw [← h]
  rw [wrap_u64]
  have h64 : a * 2 ^ j + b < 18446744073709551616 := by
    have h1 : 2 ^ 64 = 2 ^ (64 - j) * 2 ^ j := by rw [← Nat.pow_add]; congr 1; omega
    have h2 : a < 2 ^ (64 - j) := by
      apply Nat.lt_of_mul_lt_mul_right (a := 2 ^ j)
      omega
    have h3 : (a + 1) * 2 ^ j ≤ 2 ^ (64 - j) * 2 ^ j := Nat.mul_le_mul_right _ h2
    rw [Nat.add_mul, Nat.one_mul] at h3
    omega
  omega
theorem or_comm (k : IntKind) (a b : Int) : iOr k a b = iOr k b a := by
  unfold iOr
  rw [BitVec.or_comm]
theorem shl_small {a : Int} {j : Nat} (hj : j ≤ 64) (h0 : 0 ≤ a) (h : a * 2 ^ j ≤ 18446744073709551615) : iShl .u64 a (j : Int) = a * 2 ^ j := by
  unfold iShl
  rw [Int.toNat_natCast, Nat.min_eq_left (by simpa [IntKind.bits] using hj)]
  exact wrap_u64_id ⟨Int.mul_nonneg h0 (Int.le_of_lt (Int.pow_pos (by omega))), h⟩

theorem pow256 (i : Nat) : (256 : Int) ^ i = 2 ^ (8 * i) := by
  rw [Int.pow_mul]
  rfl
theorem byte_shl {x : Int} {i : Nat} (hi : i < 8) (h0 : 0 ≤ x) (h : x ≤ 255) : x * 2 ^ (8 * i) ≤ 18446744073709551615 := by
  have h1 : (2 : Int) ^ (8 * i) ≤ 2 ^ 56 := pow_le_int (by omega)
  have h2 : x * 2 ^ (8 * i) ≤ 255 * 2 ^ (8 * i) := Int.mul_le_mul_of_nonneg_right h (Int.le_of_lt (Int.pow_pos (by omega)))
  omega

theorem little_eq (b : List Int) (hb : Bytes b) (hl : b.length ≤ 8) : sh_digest_little b = some (le b) := by
  unfold sh_digest_little
  refine jn_count (fun i => (le (b.take i), b, (b.length : Int), (i : Int))) b.length (le b) rfl (fun i hi => ?_) (by rw [if_neg (by simp [bLt])]; simp) rfl
  have hx := hb b[i] (List.getElem_mem hi)
  have hbt : Bytes (b.take i) := fun y hy => hb y (List.mem_of_mem_take hy)
  have h1 := le_range hbt
  rw [List.length_take, Nat.min_eq_left (by omega), pow256] at h1
  simp only [bLt_true (show (i : Int) < (b.length : Int) by omega), if_true, bnd_eq]
  rw [atL_nat (List.getElem?_eq_getElem hi), mul_i64 (by omega), reqP_pos (by omega), add_i64 (by omega)]
  have e : (8 : Int) * (i : Int) = ((8 * i : Nat) : Int) := by omega
  have hs := byte_shl (i := i) (by omega) hx.1 hx.2
  rw [e, conv_u64_id (by omega), shl_small (by omega) hx.1 hs, or_comm, or_add _ _ _ hx.1 h1.1 hs h1.2 (by omega)]
  have e2 : le (b.take (i + 1)) = b[i] * 2 ^ (8 * i) + le (b.take i) := by
    rw [List.take_succ_eq_append_getElem hi, le_snoc, List.length_take, Nat.min_eq_left (by omega), pow256, Int.mul_comm, Int.add_comm]
  rw [← e2]
  rfl
end Go.Vm
/- The hash of bytes: program and reference compute the same. -/
namespace Go.Vm

theorem le_append : ∀ (l m : List Int), le (l ++ m) = le l + 256 ^ l.length * le m
  | [], m => by simp [le]
  | x :: l, m => by
    simp only [List.cons_append, le, le_append l m, List.length_cons, Int.pow_succ]
    rw [Int.mul_add, ← Int.mul_assoc, Int.mul_comm 256 (256 ^ l.length)]
    omega
theorem le_zeros (k : Nat) (x : Int) : le (List.replicate k 0 ++ [x]) = 256 ^ k * x := by
  induction k with
  | zero => simp [le]
  | succ k ih =>
    rw [List.replicate_succ, List.cons_append, le, ih, Int.pow_succ, Int.mul_comm (256 ^ k) 256, Int.mul_assoc]
    omega

/-- The word at a place: of eight bytes, or the last one. -/
def wordAt (b : List Int) (i : Nat) : Int := if i < b.length / 8 then le ((b.drop (8 * i)).take 8) else le (b.drop (8 * (b.length / 8))) + 2 ^ 56 * ((b.length : Int) % 256)
def sipV (k0 k1 : Int) (b : List Int) : Nat → Sip
  | 0 => ⟨iXor .u64 k0 8317987319222330741, iXor .u64 k1 7237128888997146477, iXor .u64 k0 7816392313619706465, iXor .u64 k1 8387220255154660723⟩
  | n + 1 => (sipV k0 k1 b n).word (wordAt b n)
/-- The hash. -/
def sip (k0 k1 : Int) (b : List Int) : Int := (sipV k0 k1 b (b.length / 8 + 1)).last

theorem Bytes.drop {b : List Int} (h : Bytes b) (n : Nat) : Bytes (b.drop n) := fun y hy => h y (List.mem_of_mem_drop hy)
theorem Bytes.take {b : List Int} (h : Bytes b) (n : Nat) : Bytes (b.take n) := fun y hy => h y (List.mem_of_mem_take hy)
theorem Bytes.append {a b : List Int} (h : Bytes a) (k : Bytes b) : Bytes (a ++ b) := fun y hy => (List.mem_append.1 hy).elim (h y) (k y)

theorem Sum_eq (k0 k1 : Int) (b : List Int) (hb : Bytes b) (hl : b.length ≤ 9223372036854775807) : sh_digest_Sum (k0, k1, b) = some (sip k0 k1 b) := by
  unfold sh_digest_Sum
  simp only [bnd_eq]
  refine jn_count (fun i => ((sipV k0 k1 b i).a, (sipV k0 k1 b i).b, (sipV k0 k1 b i).c, (sipV k0 k1 b i).d, b.drop (8 * i), iShl .u64 (iConv .u64 (b.length : Int)) 56)) (b.length / 8)
    ((sipV k0 k1 b (b.length / 8)).a, (sipV k0 k1 b (b.length / 8)).b, (sipV k0 k1 b (b.length / 8)).c, (sipV k0 k1 b (b.length / 8)).d, b.drop (8 * (b.length / 8)), iShl .u64 (iConv .u64 (b.length : Int)) 56) rfl (fun i hi => ?_) (by rw [if_neg (by simp [bGe]; omega)]) ?_
  · have h8 : 8 ≤ (b.drop (8 * i)).length := by rw [List.length_drop]; omega
    simp only [bGe_true (show ((b.drop (8 * i)).length : Int) ≥ 8 by omega), if_true]
    rw [reqP_pos (by omega), show ((8 : Int).toNat) = 8 from rfl, little_eq _ ((hb.drop _).take _) (by rw [List.length_take]; omega), Option.bind_some, word_eq, Option.bind_some, reqP_pos (by omega)]
    have e : wordAt b i = le ((b.drop (8 * i)).take 8) := if_pos hi
    simp only [Sip.t, sipV, e, List.drop_drop]
    rfl
  · have hr : (b.drop (8 * (b.length / 8))).length = b.length % 8 := by rw [List.length_drop]; omega
    have h1 := le_range (hb.drop (8 * (b.length / 8)))
    have h2 : (256 : Int) ^ (b.drop (8 * (b.length / 8))).length ≤ 2 ^ 56 := by
      rw [hr, pow256]
      exact pow_le_int (by omega)
    have e : iOr .u64 (iShl .u64 (iConv .u64 (b.length : Int)) 56) (le (b.drop (8 * (b.length / 8)))) = wordAt b (b.length / 8) := by
      have e1 : iShl .u64 (iConv .u64 (b.length : Int)) 56 = ((b.length : Int) % 256) * 2 ^ 56 := by
        rw [conv_u64_id (by omega)]
        have e0 : (2 : Int) ^ (min 56 64) = 72057594037927936 := by decide
        show IntKind.wrap .u64 ((b.length : Int) * 2 ^ (min 56 64)) = _
        rw [wrap_u64, e0]
        omega
      rw [e1, or_add _ _ _ (by omega) h1.1 (by omega) (by omega) (by omega), wordAt, if_neg (by omega), Int.mul_comm (2 ^ 56), Int.add_comm]
    simp only [little_eq _ (hb.drop (8 * (b.length / 8))) (by rw [hr]; omega), Option.bind_some, e, word_eq, Sip.t]
    have := round_eq ⟨((sipV k0 k1 b (b.length / 8)).word (wordAt b (b.length / 8))).a, ((sipV k0 k1 b (b.length / 8)).word (wordAt b (b.length / 8))).b, iXor .u64 ((sipV k0 k1 b (b.length / 8)).word (wordAt b (b.length / 8))).c 255, ((sipV k0 k1 b (b.length / 8)).word (wordAt b (b.length / 8))).d⟩ 4 (by omega)
    rw [show ((4 : Nat) : Int) = 4 from rfl] at this
    simp only [this, Option.bind_some, Sip.t]
    rfl

/-- A byte of a word of the reference. -/
def byteAt (b : List Int) (i q : Nat) : Int := if i + q < b.length then b.getD (i + q) 0 else if q = 7 then (b.length : Int) % 256 else 0
def refW (b : List Int) (i : Nat) : Nat → Int
  | 0 => 0
  | t + 1 => byteAt b i (7 - t) + 256 * refW b i t
theorem byteAt_range {b : List Int} (hb : Bytes b) (i q : Nat) : 0 ≤ byteAt b i q ∧ byteAt b i q ≤ 255 := by
  unfold byteAt
  split
  · rename_i h
    rw [List.getD_eq_getElem?_getD, List.getElem?_eq_getElem h]
    exact hb _ (List.getElem_mem h)
  · split <;> omega
theorem refW_range {b : List Int} (hb : Bytes b) (i : Nat) : ∀ t, 0 ≤ refW b i t ∧ refW b i t < 2 ^ (8 * t)
  | 0 => by simp [refW]
  | t + 1 => by
    have h1 := refW_range hb i t
    have h2 := byteAt_range hb i (7 - t)
    have h3 : (2 : Int) ^ (8 * (t + 1)) = 2 ^ (8 * t) * 256 := by
      rw [show 8 * (t + 1) = 8 * t + 8 by omega, Int.pow_add]
      rfl
    simp only [refW]
    omega
theorem refW_eq (b : List Int) (i : Nat) : refW b i 8 = le ((List.range 8).map (byteAt b i)) := by
  have e : List.range 8 = [0, 1, 2, 3, 4, 5, 6, 7] := rfl
  rw [e]
  simp only [refW, List.map_cons, List.map_nil, le]
theorem bytes_full {b : List Int} {i : Nat} (h : 8 * i + 8 ≤ b.length) : (List.range 8).map (byteAt b (8 * i)) = (b.drop (8 * i)).take 8 := by
  apply List.ext_getElem?
  intro j
  rw [List.getElem?_map, List.getElem?_take, List.getElem?_drop]
  by_cases hj : j < 8
  · rw [List.getElem?_range hj, if_pos hj, Option.map_some, byteAt, if_pos (by omega), List.getD_eq_getElem?_getD, List.getElem?_eq_getElem (by omega), Option.getD_some]
  · rw [if_neg hj, List.getElem?_eq_none (by simp; omega)]
    rfl
theorem bytes_last {b : List Int} : (List.range 8).map (byteAt b (8 * (b.length / 8))) = b.drop (8 * (b.length / 8)) ++ (List.replicate (7 - b.length % 8) 0 ++ [(b.length : Int) % 256]) := by
  have hr : (b.drop (8 * (b.length / 8))).length = b.length % 8 := by rw [List.length_drop]; omega
  apply List.ext_getElem?
  intro j
  rw [List.getElem?_map]
  by_cases hj : j < 8
  · rw [List.getElem?_range hj, Option.map_some, byteAt]
    by_cases h1 : j < b.length % 8
    · rw [if_pos (by omega), List.getElem?_append_left (by omega), List.getElem?_drop, List.getD_eq_getElem?_getD, List.getElem?_eq_getElem (by omega), Option.getD_some]
    · rw [if_neg (by omega), List.getElem?_append_right (by omega), hr]
      by_cases h2 : j = 7
      · subst h2
        rw [if_pos rfl, List.getElem?_append_right (by simp), List.length_replicate, show 7 - b.length % 8 - (7 - b.length % 8) = 0 by omega]
        rfl
      · rw [if_neg h2, List.getElem?_append_left (by simp; omega), List.getElem?_replicate, if_pos (by omega)]
  · rw [List.getElem?_eq_none (l := List.range 8) (by simp; omega), List.getElem?_eq_none (by simp; omega)]
    rfl
theorem refW_word {b : List Int} {i : Nat} (h : i ≤ b.length / 8) : refW b (8 * i) 8 = wordAt b i := by
  rw [refW_eq]
  by_cases hi : i < b.length / 8
  · rw [wordAt, if_pos hi, bytes_full (by omega)]
  · have : i = b.length / 8 := by omega
    subst this
    have hr : (b.drop (8 * (b.length / 8))).length = b.length % 8 := by rw [List.length_drop]; omega
    rw [wordAt, if_neg hi, bytes_last, le_append, le_zeros, ← Int.mul_assoc, ← Int.pow_add, hr, show b.length % 8 + (7 - b.length % 8) = 7 by omega]
    rfl

theorem refSum_eq (k0 k1 : Int) (b : List Int) (hb : Bytes b) (hl : b.length ≤ 9223372036854775000) : sh_passkeyref1_Sum (k0, k1, b) = some (sip k0 k1 b) := by
  unfold sh_passkeyref1_Sum
  refine jn_count (fun j => ((sipV k0 k1 b j).arr, b, ((8 * j : Nat) : Int))) (b.length / 8 + 1) (sipV k0 k1 b (b.length / 8 + 1)).arr rfl (fun j hj => ?_) (by rw [if_neg (by simp [bLe]; omega)]) ?_
  · simp only [bLe_true (show ((8 * j : Nat) : Int) ≤ (b.length : Int) by omega), if_true]
    refine jn_count (fun t => ((sipV k0 k1 b j).arr, b, ((8 * j : Nat) : Int), refW b (8 * j) t, (7 : Int) - (t : Int))) 8 ((sipV k0 k1 b j).arr, b, ((8 * j : Nat) : Int), refW b (8 * j) 8) rfl (fun t ht => ?_) (by rw [if_neg (by simp [bGe])]) ?_
    · have hw := refW_range hb (8 * j) t
      have hq := byteAt_range hb (8 * j) (7 - t)
      have hw2 : (2 : Int) ^ (8 * t) ≤ 2 ^ 56 := pow_le_int (by omega)
      have e0 : iAdd .i64 ((8 * j : Nat) : Int) (7 - (t : Int)) = ((8 * j + (7 - t) : Nat) : Int) := by
        rw [add_i64 (by omega)]
        omega
      have e1 : iOr .u64 (iShl .u64 (refW b (8 * j) t) 8) (iConv .u64 (byteAt b (8 * j) (7 - t))) = refW b (8 * j) (t + 1) := by
        rw [conv_u64_id (by omega), show (8 : Int) = ((8 : Nat) : Int) from rfl, shl_small (by omega) hw.1 (by omega), or_add _ _ _ hw.1 hq.1 (by omega) (by omega) (by omega), refW]
        omega
      have e2 : iSub .i64 (7 - (t : Int)) 1 = 7 - ((t + 1 : Nat) : Int) := by
        rw [sub_i64 (by omega)]
        omega
      simp only [bGe_true (show (7 : Int) - (t : Int) ≥ 0 by omega), if_true, bnd_eq, e0]
      by_cases h1 : 8 * j + (7 - t) < b.length
      · have e3 : byteAt b (8 * j) (7 - t) = b[8 * j + (7 - t)] := by
          rw [byteAt, if_pos h1, List.getD_eq_getElem?_getD, List.getElem?_eq_getElem h1, Option.getD_some]
        simp only [bLt_true (show ((8 * j + (7 - t) : Nat) : Int) < (b.length : Int) by omega), if_true]
        rw [atL_nat (List.getElem?_eq_getElem h1), ← e3, jn_inl, jn_inl, e1, e2]
      · simp only [bLt_false (show (b.length : Int) ≤ ((8 * j + (7 - t) : Nat) : Int) by omega), Bool.false_eq_true, if_false]
        by_cases h2 : t = 0
        · subst h2
          have e3 : byteAt b (8 * j) (7 - 0) = (b.length : Int) % 256 := by
            rw [byteAt, if_neg h1, if_pos rfl]
          simp only [bEq_true (show (7 : Int) - ((0 : Nat) : Int) = 7 by omega), if_true, conv_u8]
          rw [← e3, jn_inl, jn_inl, e1, e2]
        · have e3 : byteAt b (8 * j) (7 - t) = 0 := by
            rw [byteAt, if_neg h1, if_neg (by omega)]
          simp only [bEq_false (show (7 : Int) - (t : Int) ≠ 7 by omega), Bool.false_eq_true, if_false]
          rw [← e3, jn_inl, jn_inl, e1, e2]
    · simp only [req4_0, req4_3, bnd_eq, refW_word (show j ≤ b.length / 8 by omega)]
      have r1 := refRound_eq ⟨(sipV k0 k1 b j).a, (sipV k0 k1 b j).b, (sipV k0 k1 b j).c, iXor .u64 (sipV k0 k1 b j).d (wordAt b j)⟩
      simp only [Sip.arr, rd4_3, wr4_3] at r1 ⊢
      rw [r1, Option.bind_some]
      have r2 := refRound_eq (⟨(sipV k0 k1 b j).a, (sipV k0 k1 b j).b, (sipV k0 k1 b j).c, iXor .u64 (sipV k0 k1 b j).d (wordAt b j)⟩ : Sip).round
      simp only [Sip.arr] at r2
      rw [r2, Option.bind_some, rd4_0, wr4_0, add_i64 (by omega)]
      have e : ((8 * j : Nat) : Int) + 8 = ((8 * (j + 1) : Nat) : Int) := by omega
      rw [e]
      rfl
  · unfold sip
    generalize sipV k0 k1 b (b.length / 8 + 1) = v at *
    simp only [req4_0, req4_1, req4_2, req4_3, bnd_eq]
    have r1 := refRound_eq ⟨v.a, v.b, iXor .u64 v.c 255, v.d⟩
    have r2 := refRound_eq (⟨v.a, v.b, iXor .u64 v.c 255, v.d⟩ : Sip).round
    have r3 := refRound_eq (⟨v.a, v.b, iXor .u64 v.c 255, v.d⟩ : Sip).round.round
    have r4 := refRound_eq (⟨v.a, v.b, iXor .u64 v.c 255, v.d⟩ : Sip).round.round.round
    simp only [Sip.arr] at r1 r2 r3 r4
    simp only [Sip.arr, rd4_2, wr4_2, r1, r2, r3, r4, Option.bind_some, rd4_0, rd4_1, rd4_3]
    rfl
end Go.Vm
/- One-time signatures: words, chains, signatures. -/
namespace Go.Vm

/-! ### Words -/
def wordB (w : Int) : List Int := (List.range 8).map fun i => iConv .u8 (w / 2 ^ (56 - 8 * i))
def wordsB (l : List Int) : List Int := l.flatMap wordB
theorem wordB_len (w : Int) : (wordB w).length = 8 := by simp [wordB]
theorem wordsB_len : ∀ l : List Int, (wordsB l).length = 8 * l.length
  | [] => rfl
  | x :: l => by
    have := wordsB_len l
    simp only [wordsB, List.flatMap_cons, List.length_append, List.length_cons, wordB_len] at *
    omega
theorem wordB_bytes (w : Int) : Bytes (wordB w) := fun x hx => by
  simp only [wordB, List.mem_map] at hx
  obtain ⟨i, _, rfl⟩ := hx
  rw [conv_u8]
  omega
theorem wordsB_bytes (l : List Int) : Bytes (wordsB l) := fun x hx => by
  obtain ⟨w, _, h⟩ := List.mem_flatMap.1 hx
  exact wordB_bytes w x h
theorem wordsB_append (l m : List Int) : wordsB (l ++ m) = wordsB l ++ wordsB m := List.flatMap_append
theorem wordsB_one (x : Int) : wordsB [x] = wordB x := by simp [wordsB]
theorem wordsB_take_succ {l : List Int} {i : Nat} (h : i < l.length) : wordsB (l.take (i + 1)) = wordsB (l.take i) ++ wordB l[i] := by
  rw [List.take_succ_eq_append_getElem h, wordsB_append, wordsB_one]
theorem wordB_part (w : Int) (j : Nat) : (List.range (j + 1)).map (fun i => iConv .u8 (w / 2 ^ (56 - 8 * i))) = (List.range j).map (fun i => iConv .u8 (w / 2 ^ (56 - 8 * i))) ++ [iConv .u8 (w / 2 ^ (56 - 8 * j))] := range_map_snoc _ _

theorem Words_eq (l : List Int) (hl : l.length * 8 ≤ 140737488355328) : sh_digest_Words l = some (wordsB l) := by
  unfold sh_digest_Words
  refine jn_count (fun i => (wordsB (l.take i), l, (l.length : Int), (i : Int))) l.length (wordsB l) rfl (fun i hi => ?_) (by rw [if_neg (by simp [bLt])]; simp) rfl
  simp only [bLt_true (show (i : Int) < (l.length : Int) by omega), if_true]
  rw [atL_nat (List.getElem?_eq_getElem hi)]
  refine jn_count (fun j => (wordsB (l.take i) ++ (List.range j).map (fun q => iConv .u8 (l[i] / 2 ^ (56 - 8 * q))), l[i], l, (l.length : Int), (i : Int), (j : Int))) 8 (wordsB (l.take (i + 1)), l, (l.length : Int), (i : Int)) (by simp) (fun j hj => ?_) (by rw [if_neg (by simp [bLt]), wordsB_take_succ hi]; rfl) (by simp only [bnd_eq]; rw [add_i64 (by omega)]; rfl)
  simp only [bLt_true (show (j : Int) < 8 by omega), if_true, bnd_eq]
  have e : iSub .i64 56 (iMul .i64 8 (j : Int)) = ((56 - 8 * j : Nat) : Int) := by
    rw [mul_i64 (by omega), sub_i64 (by omega)]
    omega
  have hlen : (wordsB (l.take i)).length = 8 * i := by rw [wordsB_len, List.length_take]; omega
  rw [e, reqP_pos (by omega), shr_eq _ _ _ (by simp [IntKind.bits]; omega)]
  rw [reqP_pos (by simp [hlen]; omega), add_i64 (by omega), wordB_part, List.append_assoc]
  rfl

theorem refWords_eq (l : List Int) (hl : l.length * 8 ≤ 140737488355328) : sh_passkeyref1_Words l = some (wordsB l) := by
  unfold sh_passkeyref1_Words
  refine jn_count (fun i => (wordsB (l.take i), l, (i : Int))) l.length (wordsB l) rfl (fun i hi => ?_) (by rw [if_neg (by simp [bLt])]; simp) rfl
  simp only [bLt_true (show (i : Int) < (l.length : Int) by omega), if_true]
  refine jn_count (fun j => (wordsB (l.take i) ++ (List.range j).map (fun q => iConv .u8 (l[i] / 2 ^ (56 - 8 * q))), l, (i : Int), 7 - (j : Int))) 8 (wordsB (l.take (i + 1)), l, (i : Int)) (by simp) (fun j hj => ?_) (by rw [if_neg (by simp [bGe]), wordsB_take_succ hi]; rfl) (by simp only [bnd_eq]; rw [add_i64 (by omega)]; rfl)
  simp only [bGe_true (show (7 : Int) - (j : Int) ≥ 0 by omega), if_true]
  rw [atL_nat (List.getElem?_eq_getElem hi)]
  have e : iConv .u64 (iMul .i64 8 (7 - (j : Int))) = ((56 - 8 * j : Nat) : Int) := by
    rw [mul_i64 (by omega), conv_u64_id (by omega)]
    omega
  have hlen : (wordsB (l.take i)).length = 8 * i := by rw [wordsB_len, List.length_take]; omega
  simp only [bnd_eq]
  rw [e, reqP_pos (by omega), shr_eq _ _ _ (by simp [IntKind.bits]; omega)]
  rw [reqP_pos (by simp [hlen]; omega), sub_i64 (by omega), wordB_part, List.append_assoc]
  have e2 : (7 : Int) - (j : Int) - 1 = 7 - ((j + 1 : Nat) : Int) := by omega
  rw [e2]
  rfl

/-! ### Hash, Mac -/
def hashS (dom : Int) (b : List Int) : Int := sip (iConv .u64 dom) 0 b
def macS (key dom : Int) (b : List Int) : Int := sip key (iAdd .u64 1 (iConv .u64 dom)) b
theorem Hash_eq (dom : Int) {b : List Int} (hb : Bytes b) (hl : b.length ≤ 140737488355328) : sh_digest_Hash (dom, b) = some (hashS dom b) := by
  unfold sh_digest_Hash
  simp only [Sum_eq _ _ b hb (by omega), Option.bind_some]
  rfl
theorem refHash_eq (dom : Int) {b : List Int} (hb : Bytes b) (hl : b.length ≤ 140737488355328) : sh_passkeyref1_Hash (dom, b) = some (hashS dom b) := by
  unfold sh_passkeyref1_Hash
  simp only [refSum_eq _ _ b hb (by omega), Option.bind_some]
  rfl
theorem Mac_eq (key dom : Int) {b : List Int} (hb : Bytes b) (hl : b.length ≤ 140737488355328) : sh_digest_Mac (key, dom, b) = some (macS key dom b) := by
  unfold sh_digest_Mac
  simp only [Sum_eq _ _ b hb (by omega), Option.bind_some]
  rfl
theorem refMac_eq (key dom : Int) {b : List Int} (hb : Bytes b) (hl : b.length ≤ 140737488355328) : sh_passkeyref1_Mac (key, dom, b) = some (macS key dom b) := by
  unfold sh_passkeyref1_Mac
  simp only [refSum_eq _ _ b hb (by omega), Option.bind_some]
  rfl
theorem rangeU64_wrap (n : Int) : U64 (IntKind.wrap .u64 n) := by rw [wrap_u64]; omega
theorem rangeU64_xor (a b : Int) : U64 (iXor .u64 a b) := rangeU64_wrap _
theorem rangeU64_sip (k0 k1 : Int) (b : List Int) : U64 (sip k0 k1 b) := rangeU64_xor _ _

/-! ### Chains -/
def stepS (leaf chain p x : Int) : Int := hashS 1 (wordsB [iConv .u64 leaf, iConv .u64 chain, iConv .u64 p, x])
def runN (leaf chain p x : Int) : Nat → Int
  | 0 => x
  | n + 1 => stepS leaf chain (p + n) (runN leaf chain p x n)
def runS (leaf chain fr to x : Int) : Int := runN leaf chain (max fr 0) x (min to 15 - max fr 0).toNat
theorem runN_add (leaf chain p x : Int) (a : Nat) : ∀ b, runN leaf chain p x (a + b) = runN leaf chain (p + a) (runN leaf chain p x a) b
  | 0 => rfl
  | b + 1 => by
    show stepS leaf chain (p + ((a + b : Nat) : Int)) (runN leaf chain p x (a + b)) = stepS leaf chain (p + (a : Int) + (b : Int)) _
    rw [runN_add leaf chain p x a b]
    congr 1
    omega
theorem iMax_eq (a b : Int) : iMax a b = max a b := by unfold iMax; split <;> omega
theorem iMin_eq (a b : Int) : iMin a b = min a b := by unfold iMin; split <;> omega

theorem Run_eq (leaf chain fr to x : Int) : sh_onetime_Run (leaf, chain, fr, to, x) = some (runS leaf chain fr to x) := by
  unfold sh_onetime_Run runS
  simp only [bnd_eq, iMax_eq, iMin_eq]
  refine jn_count (fun i => (leaf, chain, to, runN leaf chain (max fr 0) x i, max fr 0 + (i : Int))) (min to 15 - max fr 0).toNat (runN leaf chain (max fr 0) x (min to 15 - max fr 0).toNat) (by simp [runN]) (fun i hi => ?_) (by rw [if_neg (by simp [bLt]; omega)]) rfl
  simp only [bLt_true (show max fr 0 + (i : Int) < min to 15 by omega), if_true]
  rw [Words_eq _ (by simp), Option.bind_some, Hash_eq _ (wordsB_bytes _) (by rw [wordsB_len]; simp), Option.bind_some, add_i64 (by omega), show max fr 0 + (i : Int) + 1 = max fr 0 + ((i + 1 : Nat) : Int) by omega]
  rfl
theorem refRun_eq (leaf chain fr to x : Int) : sh_passkeyref3_Run (leaf, chain, fr, to, x) = some (runS leaf chain fr to x) := by
  unfold sh_passkeyref3_Run runS
  simp only [bnd_eq, iMax_eq, iMin_eq]
  refine jn_count (fun i => (leaf, chain, to, runN leaf chain (max fr 0) x i, max fr 0 + (i : Int))) (min to 15 - max fr 0).toNat (runN leaf chain (max fr 0) x (min to 15 - max fr 0).toNat) (by simp [runN]) (fun i hi => ?_) (by rw [if_neg (by simp [bLt]; omega)]) rfl
  simp only [bLt_true (show max fr 0 + (i : Int) < min to 15 by omega), if_true]
  rw [refWords_eq _ (by simp), Option.bind_some, refHash_eq _ (wordsB_bytes _) (by rw [wordsB_len]; simp), Option.bind_some, add_i64 (by omega), show max fr 0 + (i : Int) + 1 = max fr 0 + ((i + 1 : Nat) : Int) by omega]
  rfl
theorem runS_two (leaf chain p q r x : Int) (h0 : 0 ≤ p) (h1 : p ≤ q) (h2 : q ≤ r) (hp : p ≤ 15) : runS leaf chain p r x = runS leaf chain q r (runS leaf chain p q x) := by
  unfold runS
  have e1 : max p 0 = p := by omega
  have e2 : max q 0 = q := by omega
  rw [e1, e2]
  have e : (min r 15 - p).toNat = (min q 15 - p).toNat + (min r 15 - q).toNat := by omega
  rw [e, runN_add]
  by_cases hq : q ≤ 15
  · congr 1
    omega
  · rw [show (min r 15 - q).toNat = 0 by omega]
    rfl

theorem OnetimeRuns_true (x : pd (valSig [.int .i64, .int .i64, .int .i64, .int .i64, .int .u64]).apt) : sh_passkeylaw3_OnetimeRuns x = some true := by
  unfold sh_passkeylaw3_OnetimeRuns
  simp only [Run_eq, refRun_eq, Option.bind_some, ite_bEq, awake3]

theorem OnetimeForward_true (x : Int × Int × Int × Int × Int × Int) (h : Goods [.int .u8, .int .u8, .int .u8, .int .u8, .int .u8, .int .u64] x) : sh_passkeylaw3_OnetimeForward x = some true := by
  obtain ⟨leaf, chain, a, b, c, v⟩ := x
  obtain ⟨h1, h2, h3, h4, h5, h6, _⟩ := goods_all h
  have h3 : U8 a := good_u8.1 h3
  have h4 : U8 b := good_u8.1 h4
  have h5 : U8 c := good_u8.1 h5
  unfold sh_passkeylaw3_OnetimeForward
  simp only [bnd_eq, rem_nonneg .u8 h3.1, rem_nonneg .u8 h4.1, rem_nonneg .u8 h5.1]
  rw [conv_i64 (a := a % 16) (by omega), conv_i64 (a := b % 16) (by omega), conv_i64 (a := c % 16) (by omega), add_i64 (a := a % 16) (b := b % 16) (by omega), add_i64 (b := c % 16) (by omega)]
  simp only [Run_eq, Option.bind_some]
  rw [runS_two _ _ (a % 16) (a % 16 + b % 16) (a % 16 + b % 16 + c % 16) v (by omega) (by omega) (by omega) (by omega)]
  simp only [ite_bEq, awake3, Option.bind_some]
end Go.Vm
/- Leases: program and reference compute the same. -/
namespace Go.Vm

/-! ### Loops that look for something -/
section
variable {σ α : Type}
def nextG (o : Option α) (s : σ) : σ ⊕ α := match o with
  | some a => .inr a
  | none => .inl s
/-- The first answer of the rounds from i on. -/
def firstG (g : Nat → Option α) (e : α) (i : Nat) : Nat → α
  | 0 => e
  | n + 1 => match g i with
    | some a => a
    | none => firstG g e (i + 1) n
theorem loopLim_first {f : σ → Option (σ ⊕ α)} (st : Nat → σ) (g : Nat → Option α) (e : α) (N : Nat) (h : ∀ i, i < N → f (st i) = some (nextG (g i) (st (i + 1)))) (he : f (st N) = some (.inr e)) : ∀ n i, i + n = N → loopLim f (st i) = some (firstG g e i n)
  | 0, i, hi => by
    have : i = N := by omega
    subst this
    exact loopLim_end he
  | n + 1, i, hi => by
    have h1 := h i (by omega)
    simp only [firstG]
    cases hg : g i with
    | some a =>
      rw [hg] at h1
      exact loopLim_end h1
    | none =>
      rw [hg] at h1
      rw [loopLim_next h1]
      exact loopLim_first st g e N h he n (i + 1) (by omega)
theorem loopLim_first0 {f : σ → Option (σ ⊕ α)} {s : σ} (st : Nat → σ) (g : Nat → Option α) (e : α) (N : Nat) (h0 : s = st 0) (h : ∀ i, i < N → f (st i) = some (nextG (g i) (st (i + 1)))) (he : f (st N) = some (.inr e)) : loopLim f s = some (firstG g e 0 N) := by
  rw [h0]
  exact loopLim_first st g e N h he N 0 (by omega)
theorem jn_first {ρ : Type} {f : σ → Option (σ ⊕ (α ⊕ ρ))} {s : σ} {k : α → Option ρ} {R : Option ρ} (st : Nat → σ) (g : Nat → Option (α ⊕ ρ)) (e : α ⊕ ρ) (N : Nat) (h0 : s = st 0) (h : ∀ i, i < N → f (st i) = some (nextG (g i) (st (i + 1)))) (he : f (st N) = some (.inr e)) (hk : jn (some (firstG g e 0 N)) k = R) : jn (loopLim f s) k = R := by
  rw [loopLim_first0 st g e N h0 h he]
  exact hk
/-- A loop of which only some is said. -/
theorem jn_ind {ρ : Type} {f : σ → Option (σ ⊕ (α ⊕ ρ))} {s : σ} {k : α → Option ρ} (m : σ → Nat) (I : σ → Prop) (Q : α → Prop) {R : ρ → Prop} (hs : I s)
    (h : ∀ s, I s → (∃ s', f s = some (.inl s') ∧ I s' ∧ m s' < m s) ∨ ∃ a, f s = some (.inr (.inl a)) ∧ Q a) (hk : ∀ a, Q a → ∃ r, k a = some r ∧ R r) : ∃ r, jn (loopLim f s) k = some r ∧ R r := by
  obtain ⟨a, h1, a', rfl, h2⟩ := loopLim_ind m I (fun _ x => ∃ a, x = Sum.inl a ∧ Q a) (fun s hs => by
    rcases h s hs with ⟨s', g1, g2, g3⟩ | ⟨a, g1, g2⟩
    · exact .inl ⟨s', g1, g2, g3, fun _ h => h⟩
    · exact .inr ⟨_, g1, a, rfl, g2⟩) s hs
  rw [h1]
  exact hk a' h2
theorem firstG_spec (g : Nat → Option α) (e : α) : ∀ n i, (∃ j a, i ≤ j ∧ j < i + n ∧ g j = some a ∧ firstG g e i n = a ∧ ∀ k, i ≤ k → k < j → g k = none) ∨ (firstG g e i n = e ∧ ∀ k, i ≤ k → k < i + n → g k = none)
  | 0, i => .inr ⟨rfl, fun k h1 h2 => by omega⟩
  | n + 1, i => by
    cases hg : g i with
    | some a => exact .inl ⟨i, a, Nat.le_refl i, by omega, hg, by simp only [firstG, hg], fun k h1 h2 => by omega⟩
    | none =>
      rcases firstG_spec g e n (i + 1) with ⟨j, a, h1, h2, h3, h4, h5⟩ | ⟨h1, h2⟩
      · refine .inl ⟨j, a, by omega, by omega, h3, by simp only [firstG, hg]; exact h4, fun k k1 k2 => ?_⟩
        by_cases e1 : k = i
        · subst e1; exact hg
        · exact h5 k (by omega) k2
      · refine .inr ⟨by simp only [firstG, hg]; exact h1, fun k k1 k2 => ?_⟩
        by_cases e1 : k = i
        · subst e1; exact hg
        · exact h2 k (by omega) (by omega)
end

/-! ### Validity, the index of a tag -/
abbrev Ls := Int × Int × Int × Int
abbrev lz : Ls := (0, 0, 0, 0)
def validS (x : Ls) : Bool := if bLe 0 x.2.1 then if bLe x.2.1 x.2.2.2 then if bLe x.2.2.2 x.2.2.1 then bLe x.2.2.1 16 else false else false else false
theorem valid_eq (x : Ls) : sh_lease_valid x = some (validS x) := by
  unfold sh_lease_valid validS
  simp only [bnd_eq]
  by_cases h1 : bLe 0 x.2.1 = true <;> by_cases h2 : bLe x.2.1 x.2.2.2 = true <;> by_cases h3 : bLe x.2.2.2 x.2.2.1 = true <;> simp only [h1, h2, h3, if_true, if_false] <;> rfl
theorem bGe_le (a b : Int) : bGe a b = bLe b a := rfl
theorem refValid_eq (x : Ls) : sh_passkeyref10_Valid x = some (validS x) := by
  unfold sh_passkeyref10_Valid validS
  simp only [bnd_eq, bGe_le]
  by_cases h1 : bLe 0 x.2.1 = true <;> by_cases h2 : bLe x.2.1 x.2.2.2 = true <;> by_cases h3 : bLe x.2.2.2 x.2.2.1 = true <;> simp only [h1, h2, h3, if_true, if_false] <;> rfl

def findG (l : List Ls) (tag : Int) (i : Nat) : Option (Unit ⊕ (Int × Bool)) := if bEq (l.getD i lz).1 tag then some (.inr ((i : Int), true)) else none
def unS {β : Type} (d : β) : Unit ⊕ β → β
  | .inl _ => d
  | .inr r => r
def findS (l : List Ls) (tag : Int) : Int × Bool := unS (0, false) (firstG (findG l tag) (.inl ()) 0 l.length)
theorem getD_get {α : Type} {l : List α} {i : Nat} {d : α} (h : i < l.length) : l.getD i d = l[i] := by
  rw [List.getD_eq_getElem?_getD, List.getElem?_eq_getElem h, Option.getD_some]
theorem jn_unS {β : Type} (d : β) (m : Unit ⊕ β) : jn (some m) (fun _ => some d) = some (unS d m) := by
  cases m <;> rfl
theorem Find_eq (l : List Ls) (tag : Int) (hl : l.length ≤ 9223372036854775807) : sh_lease_Find (l, tag) = some (findS l tag) := by
  unfold sh_lease_Find findS
  refine jn_first (fun i => (tag, l, (l.length : Int), (i : Int))) (findG l tag) (.inl ()) l.length rfl (fun i hi => ?_) (by simp [bLt]) (jn_unS _ _)
  · simp only [bLt_true (show (i : Int) < (l.length : Int) by omega), if_true]
    rw [atL_nat (List.getElem?_eq_getElem hi), add_i64 (by omega)]
    simp only [findG, getD_get hi]
    split
    · rfl
    · rfl
theorem refFind_eq (l : List Ls) (tag : Int) (hl : l.length ≤ 9223372036854775807) : sh_passkeyref10_FindLease (l, tag) = some (findS l tag) := by
  unfold sh_passkeyref10_FindLease findS
  refine jn_first (fun i => (l, tag, (i : Int))) (findG l tag) (.inl ()) l.length rfl (fun i hi => ?_) (by simp [bLt]) (jn_unS _ _)
  · simp only [bLt_true (show (i : Int) < (l.length : Int) by omega), if_true]
    rw [atL_nat (List.getElem?_eq_getElem hi), add_i64 (by omega)]
    simp only [findG, getD_get hi]
    split
    · rfl
    · rfl
/-- A tag that is found: its place. -/
theorem findS_spec (l : List Ls) (tag : Int) : (∃ i : Nat, i < l.length ∧ findS l tag = ((i : Int), true) ∧ (l.getD i lz).1 = tag) ∨ (findS l tag = (0, false) ∧ ∀ i, i < l.length → (l.getD i lz).1 ≠ tag) := by
  unfold findS
  rcases firstG_spec (findG l tag) (.inl ()) l.length 0 with ⟨j, a, h1, h2, h3, h4, _⟩ | ⟨h1, h2⟩
  · left
    simp only [findG] at h3
    split at h3
    · rename_i hb
      cases h3
      exact ⟨j, by omega, by rw [h4]; rfl, by simpa [bEq] using hb⟩
    · cases h3
  · right
    refine ⟨by rw [h1]; rfl, fun i hi => ?_⟩
    have := h2 i (by omega) (by omega)
    simp only [findG] at this
    split at this
    · cases this
    · rename_i hb
      simpa [bEq] using hb

def valG (l : List Ls) (i : Nat) : Option (Unit ⊕ Int) := if (!validS (l.getD i lz)) then some (.inr 9) else if (findS (l.take i) (l.getD i lz).1).2 then some (.inr 10) else none
def valS (l : List Ls) : Int := if bGt (l.length : Int) 16 then 8 else unS 0 (firstG (valG l) (.inl ()) 0 l.length)
theorem Validate_eq (l : List Ls) (hl : l.length ≤ 9223372036854775807) : sh_lease_Validate l = some (valS l) := by
  unfold sh_lease_Validate valS
  split
  · rfl
  · refine jn_first (fun i => (l, l, (l.length : Int), (i : Int))) (valG l) (.inl ()) l.length rfl (fun i hi => ?_) (by simp [bLt]) (jn_unS _ _)
    · simp only [bLt_true (show (i : Int) < (l.length : Int) by omega), if_true]
      rw [atL_nat (List.getElem?_eq_getElem hi), valid_eq, Option.bind_some, reqP_pos (by omega), Find_eq _ _ (by rw [List.length_take]; omega), Option.bind_some, bnd_eq, add_i64 (by omega)]
      simp only [valG, getD_get hi, Int.toNat_natCast]
      split
      · rfl
      · split <;> rfl
theorem refValidate_eq (l : List Ls) (hl : l.length ≤ 9223372036854775807) : sh_passkeyref10_ValidateLeases l = some (valS l) := by
  unfold sh_passkeyref10_ValidateLeases valS
  split
  · rfl
  · refine jn_first (fun i => (l, (i : Int))) (valG l) (.inl ()) l.length rfl (fun i hi => ?_) (by simp [bLt]) (jn_unS _ _)
    · simp only [bLt_true (show (i : Int) < (l.length : Int) by omega), if_true]
      rw [atL_nat (List.getElem?_eq_getElem hi), refValid_eq, Option.bind_some, reqP_pos (by omega), atL_nat (List.getElem?_eq_getElem hi), refFind_eq _ _ (by rw [List.length_take]; omega), Option.bind_some, bnd_eq, add_i64 (by omega)]
      simp only [valG, getD_get hi, Int.toNat_natCast]
      split
      · rfl
      · split <;> rfl
theorem valS_zero {l : List Ls} (h : valS l = 0) : l.length ≤ 16 ∧ ∀ i, i < l.length → validS (l.getD i lz) = true ∧ (findS (l.take i) (l.getD i lz).1).2 = false := by
  unfold valS at h
  split at h
  · cases h
  · rename_i hb
    have hb : l.length ≤ 16 := by simp [bGt] at hb; omega
    refine ⟨hb, fun i hi => ?_⟩
    rcases firstG_spec (valG l) (.inl ()) l.length 0 with ⟨j, a, h1, h2, h3, h4, _⟩ | ⟨h1, h2⟩
    · rw [h4] at h
      simp only [valG] at h3
      split at h3
      · cases h3; cases h
      · split at h3
        · cases h3; cases h
        · cases h3
    · have := h2 i (by omega) (by omega)
      simp only [valG] at this
      split at this
      · cases this
      · rename_i k1
        split at this
        · cases this
        · rename_i k2
          exact ⟨by simpa using k1, by simpa using k2⟩

/-! ### The law's own list -/
theorem made_ok (x : List Int) : ∃ l : List Ls, sh_passkeylaw10_made x = some l ∧ l.length ≤ 18 ∧ ∀ y ∈ l, U64 y.1 := by
  unfold sh_passkeylaw10_made
  refine jn_ind (fun s => (18 - s.2.2).toNat) (fun s => ∃ i : Nat, s.2.2 = (i : Int) ∧ s.1.length = i ∧ i ≤ 18 ∧ s.2.1 = x ∧ ∀ y ∈ s.1, U64 y.1) (fun l => l.length ≤ 18 ∧ ∀ y ∈ l, U64 y.1) ⟨0, rfl, rfl, by omega, rfl, by simp⟩ (fun s hs => ?_) (fun l hl => ⟨l, rfl, hl⟩)
  · obtain ⟨acc, x', i'⟩ := s
    obtain ⟨i, hi, hlen, h18, hx, hu⟩ := hs
    simp only at hi hlen hx hu
    subst hi hx
    by_cases hc : i < x'.length ∧ i < 18
    · left
      simp only [bLt_true (show (i : Int) < (x'.length : Int) by omega), bLt_true (show (i : Int) < 18 by omega), if_true, jn_inl, bnd_eq]
      rw [atL_nat (List.getElem?_eq_getElem hc.1)]
      generalize iAnd .i64 x'[i] 16777215 = k
      have a7 : ∀ y : Int, iAnd .i64 y 7 = y % 8 := fun y => and_7 y _ (by decide)
      have a3 : ∀ y : Int, iAnd .i64 y 3 = y % 4 := fun y => and_3 y _ (by decide)
      rw [reqP_pos (by simp only [a7]; rw [add_i64 (a := k % 8) (by omega), sub_i64 (by omega), add_i64 (by omega)]; omega)]
      have fin : ∀ (a b c d : Int), ∃ s', (jn (α := List Ls × Int × Int × Int × Int × List Int × Int × Int × Bool) (ρ := (List Ls × List Int × Int × Int × Bool) ⊕ ((List Ls × List Int × Int) ⊕ (List Ls ⊕ List Ls))) (some (.inl (acc, a, b, c, d, x', (i : Int), (i : Int), true))) fun j8 =>
          reqP ((j8.1.length + ((List.replicate 1 ((0 : Int), ((0 : Int), ((0 : Int), (0 : Int))))).set 0 (j8.2.1, (j8.2.2.1, (j8.2.2.2.1, j8.2.2.2.2.1)))).length) * 32 ≤ 140737488355328) <|
          some (.inl (j8.1 ++ (List.replicate 1 ((0 : Int), ((0 : Int), ((0 : Int), (0 : Int))))).set 0 (j8.2.1, (j8.2.2.1, (j8.2.2.2.1, j8.2.2.2.2.1))), j8.2.2.2.2.2.1, j8.2.2.2.2.2.2.1, j8.2.2.2.2.2.2.2.1, j8.2.2.2.2.2.2.2.2))) = some (.inl (acc ++ [(a, b, c, d)], x', (i : Int), (i : Int), true)) ∧ s' = (acc ++ [(a, b, c, d)], x', ((i + 1 : Nat) : Int)) := by
        intro a b c d
        refine ⟨_, ?_, rfl⟩
        rw [jn_inl, reqP_pos (by simp; omega)]
        rfl
      have fin2 : ∀ {m : Option (List Ls × Int × Int × Int × Int × List Int × Int × Int × Bool ⊕ ((List Ls × List Int × Int × Int × Bool) ⊕ ((List Ls × List Int × Int) ⊕ (List Ls ⊕ List Ls))))}, (∃ a b c d, U64 a ∧ m = some (.inl (acc, a, b, c, d, x', (i : Int), (i : Int), true))) →
          ∃ s', (jn (α := List Ls × List Int × Int × Int × Bool) (ρ := (List Ls × List Int × Int) ⊕ (List Ls ⊕ List Ls)) (jn m fun j8 =>
          reqP ((j8.1.length + ((List.replicate 1 ((0 : Int), ((0 : Int), ((0 : Int), (0 : Int))))).set 0 (j8.2.1, (j8.2.2.1, (j8.2.2.2.1, j8.2.2.2.2.1)))).length) * 32 ≤ 140737488355328) <|
          some (.inl (j8.1 ++ (List.replicate 1 ((0 : Int), ((0 : Int), ((0 : Int), (0 : Int))))).set 0 (j8.2.1, (j8.2.2.1, (j8.2.2.2.1, j8.2.2.2.2.1))), j8.2.2.2.2.2.1, j8.2.2.2.2.2.2.1, j8.2.2.2.2.2.2.2.1, j8.2.2.2.2.2.2.2.2))) fun j3 => some (.inl (j3.1, j3.2.1, iAdd .i64 j3.2.2.1 1))) = some (.inl s') ∧
            (∃ i : Nat, s'.2.2 = (i : Int) ∧ s'.1.length = i ∧ i ≤ 18 ∧ s'.2.1 = x' ∧ ∀ y ∈ s'.1, U64 y.1) ∧ (18 - s'.2.2).toNat < (18 - (i : Int)).toNat := by
        rintro m ⟨a, b, c, d, ha, rfl⟩
        obtain ⟨s', h1, rfl⟩ := fin a b c d
        rw [h1, jn_inl]
        refine ⟨(acc ++ [(a, b, c, d)], x', ((i + 1 : Nat) : Int)), by dsimp only; rw [add_i64 (by omega)]; rfl, ⟨i + 1, rfl, by simp [hlen], by omega, rfl, fun y hy => by
          rcases List.mem_append.1 hy with h | h
          · exact hu y h
          · rw [List.mem_singleton] at h; subst h; exact ha⟩, by simp only; omega⟩
      exact fin2 (by
        split
        · exact ⟨_, _, _, _, rangeU64_wrap _, rfl⟩
        · split
          · exact ⟨_, _, _, _, rangeU64_wrap _, rfl⟩
          · split
            · exact ⟨_, _, _, _, rangeU64_wrap _, rfl⟩
            · split
              · exact ⟨_, _, _, _, rangeU64_wrap _, rfl⟩
              · exact ⟨_, _, _, _, rangeU64_wrap _, rfl⟩)
    · right
      refine ⟨acc, ?_, by omega, hu⟩
      by_cases h1 : i < x'.length
      · simp only [bLt_true (show (i : Int) < (x'.length : Int) by omega), bLt_false (show (18 : Int) ≤ (i : Int) by omega), if_true, Bool.false_eq_true, if_false, jn_inr]
      · simp only [bLt_false (show (x'.length : Int) ≤ (i : Int) by omega), Bool.false_eq_true, if_false, jn_inr]
end Go.Vm
/- Leases: grants, leaves, parts, codes. -/
namespace Go.Vm

theorem Clone_eq (l : List Ls) (h : l.length ≤ 1000000) : sh_slices_Clone___passkey_api_Lease_passkey_api_Lease_ l = some l := reqP_pos (by omega) _

theorem SameLeases_eq (l : List Ls) (h : l.length ≤ 1000000) : sh_passkeyref10_SameLeases (l, l) = some true := by
  unfold sh_passkeyref10_SameLeases
  dsimp only
  rw [ite_bNe]
  refine jn_count (fun i => (l, l, (i : Int))) l.length () rfl (fun i hi => ?_) (by simp [bLt]) rfl
  simp only [bLt_true (show (i : Int) < (l.length : Int) by omega), if_true]
  rw [atL_nat (List.getElem?_eq_getElem hi), atL_nat (List.getElem?_eq_getElem hi), bEq_self, bEq_self, bEq_self, bEq_self, add_i64 (by omega)]
  rfl

/-! ### Grant -/
def grantS (l : List Ls) (x : Ls) : List Ls × Int :=
  if bNe (valS l) 0 then ([], valS l) else if (!validS x) then ([], 9) else if (findS l x.1).2 then ([], 10) else if bEq (l.length : Int) 16 then ([], 12) else (l ++ [x], 0)
theorem bNe_zero {a : Int} (h : ¬ bNe a 0 = true) : a = 0 := by
  by_cases e : a = 0
  · exact e
  · exact absurd (bNe_true e) h
theorem Grant_eq (l : List Ls) (a b c d : Int) (hl : l.length ≤ 1000000) : sh_lease_Grant (l, a, b, c, d) = some (grantS l (a, b, c, d)) := by
  unfold sh_lease_Grant grantS
  dsimp only
  rw [Validate_eq _ (by omega), Option.bind_some]
  by_cases h : bNe (valS l) 0 = true
  · rw [if_pos h, if_pos h]
  · have hz := (valS_zero (bNe_zero h)).1
    rw [if_neg h, if_neg h, valid_eq, Option.bind_some]
    split
    · rfl
    · rw [Find_eq _ _ (by omega), Option.bind_some]
      split
      · rfl
      · split
        · rfl
        · rw [Clone_eq _ hl, Option.bind_some, bnd_eq, reqP_pos (by simp; omega)]
          rfl
theorem refGrant_eq (l : List Ls) (a b c d : Int) (hl : l.length ≤ 1000000) : sh_passkeyref10_Grant (l, a, b, c, d) = some (grantS l (a, b, c, d)) := by
  unfold sh_passkeyref10_Grant grantS
  dsimp only
  rw [refValidate_eq _ (by omega), Option.bind_some]
  by_cases h : bNe (valS l) 0 = true
  · rw [if_pos h, if_pos h]
  · have hz := (valS_zero (bNe_zero h)).1
    have e : bGe (l.length : Int) 16 = bEq (l.length : Int) 16 := by
      by_cases h16 : l.length = 16
      · rw [bGe_true (by omega), bEq_true (by omega)]
      · rw [bGe_false (by omega), bEq_false (by omega)]
    rw [if_neg h, if_neg h, refValid_eq, Option.bind_some]
    split
    · rfl
    · rw [refFind_eq _ _ (by omega), Option.bind_some]
      split
      · rfl
      · rw [e]
        split
        · rfl
        · rw [reqP_pos (by omega), bnd_eq, reqP_pos (by simp; omega)]
          rfl
theorem grantS_len (l : List Ls) (x : Ls) : (grantS l x).1.length ≤ 17 := by
  unfold grantS
  by_cases h : bNe (valS l) 0 = true
  · rw [if_pos h]; simp
  · have hz := (valS_zero (bNe_zero h)).1
    rw [if_neg h]
    split
    · simp
    · split
      · simp
      · split
        · simp
        · simp; omega

/-! ### A valid list, and a tag's place -/
def heldS (l : List Ls) (tag : Int) : List Ls × Int × Int := if bNe (valS l) 0 then ([], 0, valS l) else if (!(findS l tag).2) then ([], 0, 11) else (l, (findS l tag).1, 0)
theorem held_eq (l : List Ls) (tag : Int) (hl : l.length ≤ 1000000) : sh_lease_held (l, tag) = some (heldS l tag) := by
  unfold sh_lease_held heldS
  dsimp only
  rw [Validate_eq _ (by omega), Option.bind_some]
  split
  · rfl
  · rw [Find_eq _ _ (by omega), Option.bind_some]
    split
    · rfl
    · rw [Clone_eq _ hl, Option.bind_some]
/-- Either not held, for a reason, or held at a place. -/
theorem heldS_cases (l : List Ls) (tag : Int) : (∃ e, e ≠ 0 ∧ heldS l tag = ([], 0, e)) ∨ ∃ i : Nat, i < l.length ∧ l.length ≤ 16 ∧ heldS l tag = (l, (i : Int), 0) ∧ ¬ bNe (valS l) 0 = true ∧ findS l tag = ((i : Int), true) ∧ (l.getD i lz).1 = tag := by
  unfold heldS
  by_cases h : bNe (valS l) 0 = true
  · left
    exact ⟨valS l, fun e => by rw [e] at h; exact absurd h (by decide), by rw [if_pos h]⟩
  · rcases findS_spec l tag with ⟨i, h1, h2, h3⟩ | ⟨h1, _⟩
    · right
      exact ⟨i, h1, (valS_zero (bNe_zero h)).1, by rw [if_neg h, h2]; rfl, h, h2, h3⟩
    · left
      exact ⟨11, by decide, by rw [if_neg h, h1]; rfl⟩

/-! ### Take, Part, Drop -/
def takeS (l : List Ls) (tag : Int) : List Ls × Int × Int :=
  if bNe (heldS l tag).2.2 0 then ([], 0, (heldS l tag).2.2) else
    let i := (heldS l tag).2.1.toNat
    let y := l.getD i lz
    if bEq y.2.2.2 y.2.2.1 then ([], 0, 13) else (l.set i (y.1, y.2.1, y.2.2.1, iAdd .i64 y.2.2.2 1), y.2.2.2, 0)
theorem Take_eq (l : List Ls) (tag : Int) (hl : l.length ≤ 1000000) : sh_lease_Take (l, tag) = some (takeS l tag) := by
  unfold sh_lease_Take takeS
  dsimp only
  rw [held_eq _ _ hl, Option.bind_some]
  rcases heldS_cases l tag with ⟨e, he, h⟩ | ⟨i, h1, h2, h, _⟩
  · rw [h, if_pos (bNe_true he), if_pos (bNe_true he)]
  · rw [h]
    rw [if_neg (by simp), if_neg (by simp)]
    have r : (0 : Int) ≤ (i : Int) ∧ (i : Int) < (l.length : Int) := by omega
    simp only [bnd_eq, Int.toNat_natCast]
    rw [reqP_pos r, reqP_pos r]
    show (if bEq (l.getD i lz).2.2.2 (l.getD i lz).2.2.1 = true then _ else _) = some (if bEq (l.getD i lz).2.2.2 (l.getD i lz).2.2.1 = true then _ else _)
    split
    · rfl
    · rw [reqP_pos r, reqP_pos r]
theorem refTake_eq (l : List Ls) (tag : Int) (hl : l.length ≤ 1000000) : sh_passkeyref10_Take (l, tag) = some (takeS l tag) := by
  unfold sh_passkeyref10_Take takeS
  dsimp only
  rw [refValidate_eq _ (by omega), Option.bind_some]
  rcases heldS_cases l tag with ⟨e, he, h⟩ | ⟨i, h1, h2, h, h3, h4, _⟩
  · rw [h, if_pos (bNe_true he)]
    unfold heldS at h
    split
    · rename_i hv
      rw [if_pos hv] at h
      cases h
      rfl
    · rename_i hv
      rw [if_neg hv] at h
      rw [refFind_eq _ _ (by omega), Option.bind_some]
      split
      · rename_i hf
        rw [if_pos hf] at h
        cases h
        rfl
      · rename_i hf
        rw [if_neg hf] at h
        cases h
        exact absurd rfl he
  · rw [h, if_neg h3, refFind_eq _ _ (by omega), Option.bind_some, h4]
    rw [if_neg (by simp), if_neg (by simp)]
    have r : (0 : Int) ≤ (i : Int) ∧ (i : Int) < (l.length : Int) := by omega
    simp only [bnd_eq, Int.toNat_natCast]
    rw [atL_nat (List.getElem?_eq_getElem h1), atL_nat (List.getElem?_eq_getElem h1), atL_nat (List.getElem?_eq_getElem h1)]
    have e : l.getD i lz = l[i] := getD_get h1
    rw [e]
    split
    · rfl
    · rw [reqP_pos (by omega), reqP_pos r, reqP_pos r]
theorem takeS_len (l : List Ls) (tag : Int) (hl : l.length ≤ 1000000) : (takeS l tag).1.length ≤ 1000000 := by
  unfold takeS
  split
  · simp
  · simp only []
    split
    · simp
    · simpa using hl
end Go.Vm
/- Leases: parts; the laws. -/
namespace Go.Vm

def partS (l : List Ls) (tag n : Int) : List Ls × Int × Int × Int :=
  if bNe (heldS l tag).2.2 0 then ([], 0, 0, (heldS l tag).2.2) else if bLt n 1 then ([], 0, 0, 9) else
    if bLt (iSub .i64 (l.getD (heldS l tag).2.1.toNat lz).2.2.1 (l.getD (heldS l tag).2.1.toNat lz).2.2.2) n then ([], 0, 0, 13) else
      (l.set (heldS l tag).2.1.toNat ((l.getD (heldS l tag).2.1.toNat lz).1, (l.getD (heldS l tag).2.1.toNat lz).2.1, iSub .i64 (l.getD (heldS l tag).2.1.toNat lz).2.2.1 n, (l.getD (heldS l tag).2.1.toNat lz).2.2.2), iSub .i64 (l.getD (heldS l tag).2.1.toNat lz).2.2.1 n, (l.getD (heldS l tag).2.1.toNat lz).2.2.1, 0)
theorem getD_set {α : Type} {l : List α} {i : Nat} {x d : α} (h : i < l.length) : (l.set i x).getD i d = x := by
  rw [List.getD_eq_getElem?_getD, List.getElem?_set]
  simp [h]
theorem Part_eq (l : List Ls) (tag n : Int) (hl : l.length ≤ 1000000) : sh_lease_Part (l, tag, n) = some (partS l tag n) := by
  unfold sh_lease_Part partS
  dsimp only
  rw [held_eq _ _ hl, Option.bind_some]
  rcases heldS_cases l tag with ⟨e, he, h⟩ | ⟨i, h1, h2, h, _⟩
  · rw [h, if_pos (bNe_true he), if_pos (bNe_true he)]
  · rw [h]
    simp only [Bool.not_true, Bool.false_eq_true, if_false, bNe_self]
    have r : (0 : Int) ≤ (i : Int) ∧ (i : Int) < (l.length : Int) := by omega
    simp only [bnd_eq]
    rw [Int.toNat_natCast]
    by_cases c1 : bLt n 1 = true
    · rw [if_pos c1, if_pos c1]
    · rw [if_neg c1, if_neg c1, reqP_pos r, reqP_pos r]
      by_cases c2 : bLt (iSub .i64 (l.getD i lz).2.2.1 (l.getD i lz).2.2.2) n = true
      · rw [if_pos c2, if_pos c2]
      · rw [if_neg c2, if_neg c2, reqP_pos r, reqP_pos r, reqP_pos (by rw [List.length_set]; exact r), getD_set h1]
theorem refPart_eq (l : List Ls) (tag n : Int) (hl : l.length ≤ 1000000) : sh_passkeyref10_Part (l, tag, n) = some (partS l tag n) := by
  unfold sh_passkeyref10_Part partS
  dsimp only
  rw [refValidate_eq _ (by omega), Option.bind_some]
  rcases heldS_cases l tag with ⟨e, he, h⟩ | ⟨i, h1, h2, h, h3, h4, _⟩
  · rw [h, if_pos (bNe_true he)]
    unfold heldS at h
    split
    · rename_i hv
      rw [if_pos hv] at h
      cases h
      rfl
    · rename_i hv
      rw [if_neg hv] at h
      rw [refFind_eq _ _ (by omega), Option.bind_some]
      split
      · rename_i hf
        rw [if_pos hf] at h
        cases h
        rfl
      · rename_i hf
        rw [if_neg hf] at h
        cases h
        exact absurd rfl he
  · rw [h, if_neg h3, refFind_eq _ _ (by omega), Option.bind_some, h4]
    simp only [Bool.not_true, Bool.false_eq_true, if_false, bNe_self]
    have r : (0 : Int) ≤ (i : Int) ∧ (i : Int) < (l.length : Int) := by omega
    simp only [bnd_eq]
    rw [Int.toNat_natCast]
    have e : l.getD i lz = l[i] := getD_get h1
    rw [atL_nat (List.getElem?_eq_getElem h1), atL_nat (List.getElem?_eq_getElem h1), ← e]
    by_cases c1 : bLt n 1 = true
    · rw [if_pos c1, if_pos c1]
    · rw [if_neg c1, if_neg c1]
      by_cases c2 : bLt (iSub .i64 (l.getD i lz).2.2.1 (l.getD i lz).2.2.2) n = true
      · rw [if_pos c2, if_pos c2]
      · rw [if_neg c2, if_neg c2, reqP_pos (by omega), reqP_pos r, reqP_pos r, reqP_pos (by rw [List.length_set]; exact r), atL_nat (List.getElem?_eq_getElem h1), ← e, getD_set h1]
theorem partS_len (l : List Ls) (tag n : Int) (hl : l.length ≤ 1000000) : (partS l tag n).1.length ≤ 1000000 := by
  unfold partS
  split
  · simp
  · split
    · simp
    · split
      · simp
      · simpa using hl

def dropS (l : List Ls) (tag : Int) : List Ls × Int := if bNe (heldS l tag).2.2 0 then ([], (heldS l tag).2.2) else (l.take (heldS l tag).2.1.toNat ++ l.drop ((heldS l tag).2.1.toNat + 1), 0)
theorem Delete_eq (l : List Ls) (i : Nat) (h : i < l.length) (hl : l.length ≤ 16) : sh_slices_Delete___passkey_api_Lease_passkey_api_Lease_ (l, (i : Int), ((i + 1 : Nat) : Int)) = some (l.take i ++ l.drop (i + 1)) := by
  unfold sh_slices_Delete___passkey_api_Lease_passkey_api_Lease_
  dsimp only
  rw [reqP_pos (by simp; omega), if_neg (by simp [bEq]; omega), bnd_eq, reqP_pos (by omega), reqP_pos (by omega)]
  simp only [Int.toNat_natCast, Nat.zero_add, List.drop_zero, Nat.sub_zero, bnd_eq]
  have e : (l.drop (i + 1)).take (l.length - (i + 1)) = l.drop (i + 1) := List.take_of_length_le (by simp)
  rw [e, reqP_pos (by simp; omega), reqP_pos (by
    have e1 : (l.take i).length = i := by rw [List.length_take]; omega
    have e2 : (l.drop (i + 1)).length = l.length - (i + 1) := List.length_drop
    have e3 : (l.take i ++ l.drop (i + 1)).length = l.length - 1 := by rw [List.length_append, e1, e2]; omega
    rw [e3, e1, e2, if_pos (by omega)]
    omega)]
theorem Drop_eq (l : List Ls) (tag : Int) (hl : l.length ≤ 1000000) : sh_lease_Drop (l, tag) = some (dropS l tag) := by
  unfold sh_lease_Drop dropS
  dsimp only
  rw [held_eq _ _ hl, Option.bind_some]
  rcases heldS_cases l tag with ⟨e, he, h⟩ | ⟨i, h1, h2, h, _⟩
  · rw [h, if_pos (bNe_true he), if_pos (bNe_true he)]
  · rw [h]
    simp only [Bool.not_true, Bool.false_eq_true, if_false, bNe_self]
    rw [add_i64 (by omega), show (i : Int) + 1 = ((i + 1 : Nat) : Int) by omega, Delete_eq l i h1 h2, Option.bind_some]
    rfl
theorem refDrop_eq (l : List Ls) (tag : Int) (hl : l.length ≤ 1000000) : sh_passkeyref10_Drop (l, tag) = some (dropS l tag) := by
  unfold sh_passkeyref10_Drop dropS
  dsimp only
  rw [refValidate_eq _ (by omega), Option.bind_some]
  rcases heldS_cases l tag with ⟨e, he, h⟩ | ⟨i, h1, h2, h, h3, h4, _⟩
  · rw [h, if_pos (bNe_true he)]
    unfold heldS at h
    split
    · rename_i hv
      rw [if_pos hv] at h
      cases h
      rfl
    · rename_i hv
      rw [if_neg hv] at h
      rw [refFind_eq _ _ (by omega), Option.bind_some]
      split
      · rename_i hf
        rw [if_pos hf] at h
        cases h
        rfl
      · rename_i hf
        rw [if_neg hf] at h
        cases h
        exact absurd rfl he
  · rw [h, if_neg h3, refFind_eq _ _ (by omega), Option.bind_some, h4]
    simp only [Bool.not_true, Bool.false_eq_true, if_false, bNe_self]
    simp only [bnd_eq, Int.toNat_natCast]
    have e : iAdd .i64 (i : Int) 1 = ((i + 1 : Nat) : Int) := by
      rw [add_i64 (by omega)]
      omega
    rw [e, reqP_pos (by omega), reqP_pos (by simp; omega), reqP_pos (by omega), reqP_pos (by simp; omega)]
    simp only [Int.toNat_natCast]
theorem dropS_len (l : List Ls) (tag : Int) (hl : l.length ≤ 1000000) : (dropS l tag).1.length ≤ 1000000 := by
  unfold dropS
  split
  · simp
  · simp; omega

/-! ### The laws -/
theorem awake10 : sh_passkeylaw10_awake () = some true := by
  unfold sh_passkeylaw10_awake
  rw [Grant_eq _ _ _ _ _ (by simp), Option.bind_some]
  have e1 : grantS [] ((5 : Int), (0 : Int), (2 : Int), (0 : Int)) = ([(5, 0, 2, 0)], 0) := by decide
  rw [e1, Take_eq _ _ (by simp), Option.bind_some]
  have e2 : takeS [(5, 0, 2, 0)] 5 = ([(5, 0, 2, 1)], 0, 0) := by decide
  rw [e2, Take_eq _ _ (by simp), Option.bind_some]
  have e3 : takeS [(5, 0, 2, 1)] 5 = ([(5, 0, 2, 2)], 1, 0) := by decide
  rw [e3, Take_eq _ _ (by simp), Option.bind_some]
  have e4 : takeS [(5, 0, 2, 2)] 5 = ([], 0, 13) := by decide
  rw [e4]
  rfl

theorem LeaseFinds_true (x : List Ls × List Int × Int × Int) : sh_passkeylaw10_LeaseFinds x = some true := by
  obtain ⟨l, m, tag, n⟩ := x
  unfold sh_passkeylaw10_LeaseFinds
  dsimp only
  by_cases hl : (l.length : Int) > 40
  · rw [if_pos (bGt_true hl), awake10, Option.bind_some]
  · obtain ⟨k, hk, hk2, _⟩ := made_ok m
    rw [if_neg (by rw [bGt_false (by omega)]; simp), hk, Option.bind_some, Find_eq _ _ (by omega), Option.bind_some, refFind_eq _ _ (by omega), Option.bind_some, Find_eq _ _ (by omega), Option.bind_some, refFind_eq _ _ (by omega), Option.bind_some,
      Validate_eq _ (by omega), Option.bind_some, refValidate_eq _ (by omega), Option.bind_some, ite_bEq, Validate_eq _ (by omega), Option.bind_some, refValidate_eq _ (by omega), Option.bind_some, ite_bEq, ite_bEq, if_pos (by simp [bIff]), ite_bEq, if_pos (by simp [bIff]), awake10, Option.bind_some]
theorem LeaseGrants_true (x : List Int × Int × Int) : sh_passkeylaw10_LeaseGrants x = some true := by
  obtain ⟨m, tag, n⟩ := x
  unfold sh_passkeylaw10_LeaseGrants
  dsimp only
  obtain ⟨k, hk, hk2, _⟩ := made_ok m
  simp only [bnd_eq]
  rw [hk, Option.bind_some, Grant_eq _ _ _ _ _ (by omega), Option.bind_some, refGrant_eq _ _ _ _ _ (by omega), Option.bind_some, Grant_eq _ _ _ _ _ (by omega), Option.bind_some, refGrant_eq _ _ _ _ _ (by omega), Option.bind_some, ite_bEq,
    SameLeases_eq _ (Nat.le_trans (grantS_len _ _) (by omega)), Option.bind_some, if_pos rfl, ite_bEq, SameLeases_eq _ (Nat.le_trans (grantS_len _ _) (by omega)), Option.bind_some, if_pos rfl, awake10, Option.bind_some]
theorem LeaseTakes_true (x : List Int × Int) : sh_passkeylaw10_LeaseTakes x = some true := by
  obtain ⟨m, n⟩ := x
  unfold sh_passkeylaw10_LeaseTakes
  dsimp only
  obtain ⟨k, hk, hk2, _⟩ := made_ok m
  rw [hk, Option.bind_some, Take_eq _ _ (by omega), Option.bind_some, refTake_eq _ _ (by omega), Option.bind_some, Drop_eq _ _ (by omega), Option.bind_some, refDrop_eq _ _ (by omega), Option.bind_some, ite_bEq, ite_bEq,
    SameLeases_eq _ (takeS_len _ _ (by omega)), Option.bind_some, if_pos rfl, ite_bEq, SameLeases_eq _ (dropS_len _ _ (by omega)), Option.bind_some, if_pos rfl, awake10, Option.bind_some]
theorem LeaseParts_true (x : List Int × Int × Int) : sh_passkeylaw10_LeaseParts x = some true := by
  obtain ⟨m, n, c⟩ := x
  unfold sh_passkeylaw10_LeaseParts
  dsimp only
  obtain ⟨k, hk, hk2, _⟩ := made_ok m
  rw [hk, Option.bind_some, Part_eq _ _ _ (by omega), Option.bind_some, refPart_eq _ _ _ (by omega), Option.bind_some, Part_eq _ _ _ (by omega), Option.bind_some, refPart_eq _ _ _ (by omega), Option.bind_some, ite_bEq, ite_bEq, ite_bEq,
    SameLeases_eq _ (partS_len _ _ _ (by omega)), Option.bind_some, if_pos rfl, ite_bEq, ite_bEq, ite_bEq, SameLeases_eq _ (partS_len _ _ _ (by omega)), Option.bind_some, if_pos rfl, awake10, Option.bind_some]
end Go.Vm
/- Leases: their bytes. -/
namespace Go.Vm

/-- So many bytes as a number, the greatest first. -/
def beN (b : List Int) : Nat → Int
  | 0 => 0
  | t + 1 => beN b t * 256 + b.getD t 0
theorem getD_byte {b : List Int} (hb : Bytes b) (t : Nat) : 0 ≤ b.getD t 0 ∧ b.getD t 0 ≤ 255 := by
  rw [List.getD_eq_getElem?_getD]
  cases h : b[t]? with
  | none => simp
  | some x => exact hb x (List.mem_of_getElem? h)
theorem beN_range {b : List Int} (hb : Bytes b) : ∀ t, 0 ≤ beN b t ∧ beN b t < 2 ^ (8 * t)
  | 0 => by simp [beN]
  | t + 1 => by
    have h1 := beN_range hb t
    have h2 := getD_byte hb t
    have h3 : (2 : Int) ^ (8 * (t + 1)) = 2 ^ (8 * t) * 256 := by
      rw [show 8 * (t + 1) = 8 * t + 8 by omega, Int.pow_add]
      rfl
    simp only [beN]
    omega
theorem be_step {b : List Int} (hb : Bytes b) {t : Nat} (ht : t < 8) : iOr .u64 (iShl .u64 (beN b t) 8) (iConv .u64 (b.getD t 0)) = beN b (t + 1) := by
  have h1 := beN_range hb t
  have h2 := getD_byte hb t
  have h3 : (2 : Int) ^ (8 * t) ≤ 2 ^ 56 := pow_le_int (by omega)
  rw [conv_u64_id (by omega), show (8 : Int) = ((8 : Nat) : Int) from rfl, shl_small (by omega) h1.1 (by omega), or_add _ _ _ h1.1 h2.1 (by omega) (by omega) (by omega), beN]
  omega
theorem beN_congr {a b : List Int} : ∀ t, (∀ i, i < t → a.getD i 0 = b.getD i 0) → beN a t = beN b t
  | 0, _ => rfl
  | t + 1, h => by simp only [beN, beN_congr t fun i hi => h i (by omega), h t (by omega)]
theorem beN_word {w : Int} (hw : U64 w) : ∀ t, t ≤ 8 → beN (wordB w) t = w / 2 ^ (64 - 8 * t)
  | 0, _ => by
    simp only [beN]
    omega
  | t + 1, h => by
    have e1 : (2 : Int) ^ (64 - 8 * t) = 2 ^ (64 - 8 * (t + 1)) * 256 := by
      rw [show 64 - 8 * t = (64 - 8 * (t + 1)) + 8 by omega, Int.pow_add]
      rfl
    simp only [beN, beN_word hw t (by omega)]
    have e2 : (wordB w).getD t 0 = iConv .u8 (w / 2 ^ (56 - 8 * t)) := by rw [wordB, getD_map_range (by omega)]
    rw [e2, conv_u8, e1, show 56 - 8 * t = 64 - 8 * (t + 1) by omega, ← Int.ediv_ediv_of_nonneg (Int.le_of_lt (Int.pow_pos (by omega)))]
    generalize w / 2 ^ (64 - 8 * (t + 1)) = q
    omega

theorem take_getD {α : Type} {l : List α} {i n : Nat} {d : α} (h : i < n) : (l.take n).getD i d = l.getD i d := by
  rw [List.getD_eq_getElem?_getD, List.getElem?_take, if_pos h, ← List.getD_eq_getElem?_getD]
theorem word10_eq (b : List Int) (hb : Bytes b) (hl : 8 ≤ b.length) : sh_lease_word b = some (beN b 8) := by
  unfold sh_lease_word
  rw [reqP_pos (by omega)]
  have h8 : (b.take (8 : Int).toNat).length = 8 := by rw [List.length_take]; simp; omega
  refine jn_count (fun t => (beN b t, b.take (8 : Int).toNat, ((b.take (8 : Int).toNat).length : Int), (t : Int))) 8 (beN b 8) rfl (fun t ht => ?_) (by rw [h8, if_neg (by simp [bLt])]) rfl
  dsimp only
  rw [if_pos (bLt_true (by rw [h8]; omega)), atL_nat (List.getElem?_eq_getElem (by rw [h8]; exact ht)), bnd_eq, bnd_eq]
  have e : (b.take (8 : Int).toNat)[t]'(by rw [h8]; exact ht) = b.getD t 0 := by rw [List.getElem_take, getD_get (by omega)]
  rw [e, be_step hb ht, add_i64 (by omega)]
  rfl
theorem refWord_eq (b : List Int) (hb : Bytes b) (hl : 8 ≤ b.length) : sh_passkeyref1_Word (b.take 8) = some (beN b 8) := by
  unfold sh_passkeyref1_Word
  have h8 : (b.take 8).length = 8 := by rw [List.length_take]; omega
  refine jn_count (fun t => (b.take 8, beN b t, (t : Int))) 8 (beN b 8) rfl (fun t ht => ?_) ?_ rfl
  · dsimp only
    rw [if_pos (bLt_true (by omega)), if_pos (bLt_true (by rw [h8]; omega)), jn_inl]
    dsimp only
    rw [atL_nat (List.getElem?_eq_getElem (by rw [h8]; exact ht)), bnd_eq, bnd_eq]
    have e : (b.take 8)[t]'(by rw [h8]; exact ht) = b.getD t 0 := by rw [List.getElem_take, getD_get (by omega)]
    rw [e, be_step hb ht, add_i64 (by omega)]
    rfl
  · dsimp only
    rw [if_neg (by simp [bLt]), jn_inr]

def encS (x : Ls) : List Int := if (!validS x) then [] else wordsB [x.1] ++ [iConv .u8 x.2.1, iConv .u8 x.2.2.1, iConv .u8 x.2.2.2]
theorem Encode_eq (x : Ls) : sh_lease_Encode x = some (encS x) := by
  unfold sh_lease_Encode encS
  rw [valid_eq, Option.bind_some]
  by_cases h : (!validS x) = true
  · rw [if_pos h, if_pos h]
  · rw [if_neg h, if_neg h, bnd_eq, Words_eq _ (by simp), Option.bind_some, bnd_eq, reqP_pos (by rw [wordsB_len]; simp)]
    rfl
theorem refEncode_eq (x : Ls) : sh_passkeyref10_EncodeLease x = some (encS x) := by
  unfold sh_passkeyref10_EncodeLease encS
  rw [refValid_eq, Option.bind_some]
  by_cases h : (!validS x) = true
  · rw [if_pos h, if_pos h]
  · rw [if_neg h, if_neg h, bnd_eq, refWords_eq _ (by simp), Option.bind_some, bnd_eq, reqP_pos (by rw [wordsB_len]; simp)]
    rfl

def decS (b : List Int) : Int × Int × Int × Int × Int :=
  if bNe (b.length : Int) 11 then (0, 0, 0, 0, 2) else if (!validS (beN b 8, b.getD 8 0, b.getD 9 0, b.getD 10 0)) then (0, 0, 0, 0, 2) else (beN b 8, b.getD 8 0, b.getD 9 0, b.getD 10 0, 0)
theorem Decode_eq (b : List Int) (hb : Bytes b) : sh_lease_Decode b = some (decS b) := by
  unfold sh_lease_Decode decS
  by_cases h : bNe (b.length : Int) 11 = true
  · rw [if_pos h, if_pos h]
  · have hl : b.length = 11 := by
      have := h
      simp only [bNe, bne_iff_ne, ne_eq, Decidable.not_not] at this
      omega
    have c : ∀ i, iConv .i64 (b.getD i 0) = b.getD i 0 := fun i => conv_i64 (by have := getD_byte hb i; omega)
    rw [if_neg h, if_neg h, word10_eq b hb (by omega), Option.bind_some, show (8 : Int) = ((8 : Nat) : Int) from rfl, show (9 : Int) = ((9 : Nat) : Int) from rfl, show (10 : Int) = ((10 : Nat) : Int) from rfl,
      atL_nat (List.getElem?_eq_getElem (by omega)), atL_nat (List.getElem?_eq_getElem (by omega)), atL_nat (List.getElem?_eq_getElem (by omega)), ← getD_get (d := (0 : Int)) (by omega), ← getD_get (d := (0 : Int)) (by omega), ← getD_get (d := (0 : Int)) (by omega), c, c, c, valid_eq, Option.bind_some]
    by_cases h2 : (!validS (beN b 8, b.getD 8 0, b.getD 9 0, b.getD 10 0)) = true
    · rw [if_pos h2, if_pos h2]
    · rw [if_neg h2, if_neg h2]
theorem refDecode_eq (b : List Int) (hb : Bytes b) : sh_passkeyref10_DecodeLease b = some (decS b) := by
  unfold sh_passkeyref10_DecodeLease decS
  by_cases h : bNe (b.length : Int) 11 = true
  · rw [if_pos h, if_pos h]
  · have hl : b.length = 11 := by
      have := h
      simp only [bNe, bne_iff_ne, ne_eq, Decidable.not_not] at this
      omega
    have c : ∀ i, iConv .i64 (b.getD i 0) = b.getD i 0 := fun i => conv_i64 (by have := getD_byte hb i; omega)
    rw [if_neg h, if_neg h, reqP_pos (by omega), show (8 : Int).toNat = 8 from rfl, refWord_eq b hb (by omega), Option.bind_some, show (8 : Int) = ((8 : Nat) : Int) from rfl, show (9 : Int) = ((9 : Nat) : Int) from rfl, show (10 : Int) = ((10 : Nat) : Int) from rfl,
      atL_nat (List.getElem?_eq_getElem (by omega)), atL_nat (List.getElem?_eq_getElem (by omega)), atL_nat (List.getElem?_eq_getElem (by omega)), ← getD_get (d := (0 : Int)) (by omega), ← getD_get (d := (0 : Int)) (by omega), ← getD_get (d := (0 : Int)) (by omega), c, c, c, refValid_eq, Option.bind_some]
    by_cases h2 : (!validS (beN b 8, b.getD 8 0, b.getD 9 0, b.getD 10 0)) = true
    · rw [if_pos h2, if_pos h2]
    · rw [if_neg h2, if_neg h2]

theorem validS_range {x : Ls} (h : validS x = true) : 0 ≤ x.2.1 ∧ x.2.1 ≤ x.2.2.2 ∧ x.2.2.2 ≤ x.2.2.1 ∧ x.2.2.1 ≤ 16 := by
  unfold validS at h
  split at h
  · split at h
    · split at h
      · simp only [bLe, decide_eq_true_eq] at *
        omega
      · cases h
    · cases h
  · cases h
theorem encS_bytes (x : Ls) : Bytes (encS x) := by
  unfold encS
  split
  · intro y hy; cases hy
  · intro y hy
    rcases List.mem_append.1 hy with h | h
    · exact wordsB_bytes _ y h
    · simp only [List.mem_cons, List.not_mem_nil, or_false] at h
      rcases h with rfl | rfl | rfl <;> rw [conv_u8] <;> omega
theorem dec_enc {x : Ls} (hv : validS x = true) (hu : U64 x.1) : decS (encS x) = (x.1, x.2.1, x.2.2.1, x.2.2.2, 0) ∧ (encS x).length = 11 := by
  have hr := validS_range hv
  have e : encS x = wordB x.1 ++ [x.2.1, x.2.2.1, x.2.2.2] := by
    unfold encS
    rw [if_neg (by simp [hv]), wordsB_one, conv_u8_id (by omega), conv_u8_id (by omega), conv_u8_id (by omega)]
  have hl : (encS x).length = 11 := by rw [e]; simp [wordB_len]
  have h8 : beN (encS x) 8 = x.1 := by
    rw [beN_congr (b := wordB x.1) 8 fun i hi => by
      rw [e, List.getD_eq_getElem?_getD, List.getElem?_append_left (by rw [wordB_len]; exact hi), ← List.getD_eq_getElem?_getD], beN_word hu 8 (by omega)]
    simp
  have g : ∀ j, (encS x).getD (8 + j) 0 = [x.2.1, x.2.2.1, x.2.2.2].getD j 0 := fun j => by
    rw [e, List.getD_eq_getElem?_getD, List.getElem?_append_right (by rw [wordB_len]; omega), wordB_len, Nat.add_sub_cancel_left, ← List.getD_eq_getElem?_getD]
  refine ⟨?_, hl⟩
  unfold decS
  rw [if_neg (by simp [bNe, hl]), h8, g 0, show (9 : Nat) = 8 + 1 from rfl, g 1, show (10 : Nat) = 8 + 2 from rfl, g 2]
  have hx : ((x.1, [x.2.1, x.2.2.1, x.2.2.2].getD 0 0, [x.2.1, x.2.2.1, x.2.2.2].getD 1 0, [x.2.1, x.2.2.1, x.2.2.2].getD 2 0) : Ls) = x := rfl
  rw [hx, if_neg (by simp [hv])]
  rfl

theorem sEq_self (s : List UInt8) : sEq s s = true := by simp [sEq]
theorem LeaseCodes_true (x : Ls × List Int × List Int) (h : Goods [(.st (.pair (.int .u64) (.pair (.int .i64) (.pair (.int .i64) (.int .i64))))), .list (.int .i64), .list (.int .u8)] x) : sh_passkeylaw10_LeaseCodes x = some true := by
  obtain ⟨y, m, b⟩ := x
  obtain ⟨g1, _, g3, _⟩ := goods_all h
  have hy : U64 y.1 := good_u64.1 g1.1
  have hb : Bytes b := fun z hz => good_u8.1 (g3.2 z hz)
  unfold sh_passkeylaw10_LeaseCodes
  dsimp only
  by_cases hl : (b.length : Int) > 100
  · rw [if_pos (bGt_true hl), awake10, Option.bind_some]
  · obtain ⟨k, hk, hk2, hk3⟩ := made_ok m
    rw [if_neg (by rw [bGt_false (by omega)]; simp), hk, Option.bind_some, bnd_eq, reqP_pos (by simp; omega), bnd_eq]
    have hall : ∀ z ∈ k ++ [y], U64 z.1 := fun z hz => by
      rcases List.mem_append.1 hz with h | h
      · exact hk3 z h
      · rw [List.mem_singleton] at h; subst h; exact hy
    have hlen : (k ++ [y]).length ≤ 19 := by simp; omega
    show jn (loopLim _ (k ++ [y], b, (0 : Int))) _ = some true
    generalize k ++ [y] = L at *
    refine jn_count (fun i => (L, b, (i : Int))) L.length b rfl (fun i hi => ?_) (by rw [if_neg (by simp [bLt])]) ?_
    · have r : (0 : Int) ≤ (i : Int) ∧ (i : Int) < (L.length : Int) := by omega
      have hz : U64 (L.getD i lz).1 := by rw [getD_get hi]; exact hall _ (List.getElem_mem hi)
      dsimp only
      rw [if_pos (bLt_true r.2), reqP_pos r, Int.toNat_natCast]
      generalize L.getD i lz = z at *
      rw [Encode_eq, Option.bind_some, reqP_pos r, refEncode_eq, Option.bind_some, sEq_self, if_neg (by simp), Decode_eq _ (encS_bytes _), Option.bind_some]
      by_cases hv : validS z = true
      · obtain ⟨d1, d2⟩ := dec_enc hv hz
        rw [if_pos (bGt_true (show (0 : Int) < ((encS (z.1, z.2.1, z.2.2.1, z.2.2.2)).length : Int) by
          have : (encS (z.1, z.2.1, z.2.2.1, z.2.2.2)).length = 11 := d2
          omega))]
        have d1' : decS (encS (z.1, z.2.1, z.2.2.1, z.2.2.2)) = (z.1, z.2.1, z.2.2.1, z.2.2.2, 0) := d1
        rw [d1', if_neg (by simp), reqP_pos r, if_neg (by simp), jn_inl, bnd_eq]
        dsimp only
        rw [add_i64 (by omega)]
        rfl
      · have e : encS (z.1, z.2.1, z.2.2.1, z.2.2.2) = [] := if_pos (by simpa using hv)
        rw [e, if_neg (by simp [bGt]), jn_inl, bnd_eq]
        dsimp only
        rw [add_i64 (by omega)]
        rfl
    · have hm : iMin (b.length : Int) 11 = ((min b.length 11 : Nat) : Int) := by rw [iMin_eq]; omega
      rw [Decode_eq _ hb, Option.bind_some, refDecode_eq _ hb, Option.bind_some, hm, reqP_pos (by omega), Int.toNat_natCast, Decode_eq _ (hb.take _), Option.bind_some, reqP_pos (by omega), refDecode_eq _ (hb.take _), Option.bind_some,
        if_pos (by simp), ite_bEq, if_pos (by simp), ite_bEq, awake10, Option.bind_some]
end Go.Vm
