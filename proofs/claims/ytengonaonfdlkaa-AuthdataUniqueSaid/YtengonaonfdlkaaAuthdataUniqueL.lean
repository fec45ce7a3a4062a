/- Plain laws about what the functions compute. -/
import Derived.Test.YtengonaonfdlkaaAuthdataUniqueP
/- One-time signatures: the digits of a word. -/
namespace Go.Vm

end Go.Vm
/- The hash: program and reference compute the same. -/
namespace Go.Vm

def rotl (x : Int) (k : Nat) : Int := iOr .u64 (iShl .u64 x (k : Int)) (iShr .u64 x ((64 - k : Nat) : Int))
/-- The state of the hash. -/
structure Sip where
  a : Int
  b : Int
  c : Int
  d : Int
def Sip.t (v : Sip) : Int × Int × Int × Int := (v.a, v.b, v.c, v.d)
def Sip.arr (v : Sip) : Arr 4 Int := ⟨[v.a, v.b, v.c, v.d], rfl⟩
def Sip.round (v : Sip) : Sip :=
  let a1 := iAdd .u64 v.a v.b
  let b1 := iXor .u64 (rotl v.b 13) a1
  let a2 := rotl a1 32
  let c1 := iAdd .u64 v.c v.d
  let d1 := iXor .u64 (rotl v.d 16) c1
  let a3 := iAdd .u64 a2 d1
  let d2 := iXor .u64 (rotl d1 21) a3
  let c2 := iAdd .u64 c1 b1
  let b2 := iXor .u64 (rotl b1 17) c2
  ⟨a3, b2, rotl c2 32, d2⟩
def Sip.rounds (v : Sip) : Nat → Sip
  | 0 => v
  | n + 1 => (v.rounds n).round
def Sip.word (v : Sip) (m : Int) : Sip :=
  let v := (⟨v.a, v.b, v.c, iXor .u64 v.d m⟩ : Sip).round.round
  ⟨iXor .u64 v.a m, v.b, v.c, v.d⟩
def Sip.last (v : Sip) : Int :=
  let v := (⟨v.a, v.b, iXor .u64 v.c 255, v.d⟩ : Sip).round.round.round.round
  iXor .u64 (iXor .u64 (iXor .u64 v.a v.b) v.c) v.d

theorem RotateLeft_eq (x : Int) (k : Nat) (h : k < 64) : sh_math_bits_RotateLeft64 (x, (k : Int)) = some (rotl x k) := by
  unfold sh_math_bits_RotateLeft64
  have e : iAnd .u64 (iConv .u64 (k : Int)) 63 = (k : Int) := by
    rw [conv_u64_id (by omega), and_63 _ _ (by decide)]
    omega
  have e2 : iSub .u64 64 (k : Int) = ((64 - k : Nat) : Int) := by
    unfold iSub
    rw [wrap_u64_id (by omega)]
    omega
  simp only [bnd_eq, e, e2]
  rw [reqP_pos (by omega), reqP_pos (by omega)]
  rfl
theorem refRotl_eq (x : Int) (k : Nat) (h : k < 64) : sh_passkeyref1_rotl (x, (k : Int)) = some (rotl x k) := by
  unfold sh_passkeyref1_rotl
  have e2 : iSub .u64 64 (k : Int) = ((64 - k : Nat) : Int) := by
    unfold iSub
    rw [wrap_u64_id (by omega)]
    omega
  simp only [bnd_eq, e2]
  rw [reqP_pos (by omega), reqP_pos (by omega)]
  rfl

theorem round_eq (v : Sip) (n : Nat) (hn : n < 100) : sh___passkey_digest_state__round (v.a, v.b, v.c, v.d, (n : Int)) = some (v.rounds n).t := by
  unfold sh___passkey_digest_state__round
  refine jn_count (fun i => ((v.rounds i).a, (v.rounds i).b, (v.rounds i).c, (v.rounds i).d, (n : Int), (i : Int))) n ((v.rounds n).a, (v.rounds n).b, (v.rounds n).c, (v.rounds n).d) rfl (fun i hi => ?_) (by rw [if_neg (by simp [bLt])]) rfl
  simp only [bLt_true (show (i : Int) < (n : Int) by omega), if_true, bnd_eq]
  have r (x : Int) (k : Nat) (h : k < 64) := RotateLeft_eq x k h
  rw [show (13 : Int) = ((13 : Nat) : Int) from rfl, show (32 : Int) = ((32 : Nat) : Int) from rfl, show (16 : Int) = ((16 : Nat) : Int) from rfl, show (21 : Int) = ((21 : Nat) : Int) from rfl, show (17 : Int) = ((17 : Nat) : Int) from rfl]
  simp only [r _ 13 (by omega), r _ 32 (by omega), r _ 16 (by omega), r _ 21 (by omega), r _ 17 (by omega), Option.bind_some]
  rw [add_i64 (by omega)]
  rfl

theorem word_eq (v : Sip) (m : Int) : sh___passkey_digest_state__word (v.a, v.b, v.c, v.d, m) = some (v.word m).t := by
  unfold sh___passkey_digest_state__word
  simp only [bnd_eq]
  have := round_eq ⟨v.a, v.b, v.c, iXor .u64 v.d m⟩ 2 (by omega)
  rw [show ((2 : Nat) : Int) = 2 from rfl] at this
  rw [this]
  rfl

section
variable (a b c d x : Int)
@[simp] theorem rd4_0 : arrRd (0 : Int) (⟨[a, b, c, d], rfl⟩ : Arr 4 Int) 0 = a := rfl
@[simp] theorem rd4_1 : arrRd (0 : Int) (⟨[a, b, c, d], rfl⟩ : Arr 4 Int) 1 = b := rfl
@[simp] theorem rd4_2 : arrRd (0 : Int) (⟨[a, b, c, d], rfl⟩ : Arr 4 Int) 2 = c := rfl
@[simp] theorem rd4_3 : arrRd (0 : Int) (⟨[a, b, c, d], rfl⟩ : Arr 4 Int) 3 = d := rfl
@[simp] theorem wr4_0 : arrWr (⟨[a, b, c, d], rfl⟩ : Arr 4 Int) 0 x = ⟨[x, b, c, d], rfl⟩ := rfl
@[simp] theorem wr4_1 : arrWr (⟨[a, b, c, d], rfl⟩ : Arr 4 Int) 1 x = ⟨[a, x, c, d], rfl⟩ := rfl
@[simp] theorem wr4_2 : arrWr (⟨[a, b, c, d], rfl⟩ : Arr 4 Int) 2 x = ⟨[a, b, x, d], rfl⟩ := rfl
@[simp] theorem wr4_3 : arrWr (⟨[a, b, c, d], rfl⟩ : Arr 4 Int) 3 x = ⟨[a, b, c, x], rfl⟩ := rfl
end
section
variable {ρ : Type} (y : Option ρ)
@[simp] theorem req4_0 : reqP ((0 : Int) ≤ 0 ∧ (0 : Int) < 4) y = y := reqP_pos (by decide) y
@[simp] theorem req4_1 : reqP ((0 : Int) ≤ 1 ∧ (1 : Int) < 4) y = y := reqP_pos (by decide) y
@[simp] theorem req4_2 : reqP ((0 : Int) ≤ 2 ∧ (2 : Int) < 4) y = y := reqP_pos (by decide) y
@[simp] theorem req4_3 : reqP ((0 : Int) ≤ 3 ∧ (3 : Int) < 4) y = y := reqP_pos (by decide) y
end
theorem rotl13 (x : Int) : sh_passkeyref1_rotl (x, 13) = some (rotl x 13) := refRotl_eq x 13 (by omega)
theorem rotl16 (x : Int) : sh_passkeyref1_rotl (x, 16) = some (rotl x 16) := refRotl_eq x 16 (by omega)
theorem rotl17 (x : Int) : sh_passkeyref1_rotl (x, 17) = some (rotl x 17) := refRotl_eq x 17 (by omega)
theorem rotl21 (x : Int) : sh_passkeyref1_rotl (x, 21) = some (rotl x 21) := refRotl_eq x 21 (by omega)
theorem rotl32 (x : Int) : sh_passkeyref1_rotl (x, 32) = some (rotl x 32) := refRotl_eq x 32 (by omega)

theorem refRound_eq (v : Sip) : sh_passkeyref1_round v.arr = some v.round.arr := by
  unfold sh_passkeyref1_round Sip.arr
  simp only [req4_0, req4_1, req4_2, req4_3, bnd_eq, rd4_0, rd4_1, rd4_2, rd4_3, wr4_0, wr4_1, wr4_2, wr4_3, rotl13, rotl16, rotl17, rotl21, rotl32, Option.bind_some]
  rfl

/-! ### Words of bytes, the least first -/
def le : List Int → Int
  | [] => 0
  | x :: l => x + 256 * le l
def Bytes (l : List Int) : Prop := ∀ x ∈ l, 0 ≤ x ∧ x ≤ 255
theorem le_range : ∀ {l : List Int}, Bytes l → 0 ≤ le l ∧ le l < 256 ^ l.length
  | [], _ => by simp [le]
  | x :: l, h => by
    have h1 := h x (.head _)
    have h2 := le_range (l := l) fun y hy => h y (.tail _ hy)
    simp only [le, List.length_cons, Int.pow_succ]
    omega
theorem le_snoc : ∀ (l : List Int) (x : Int), le (l ++ [x]) = le l + 256 ^ l.length * x
  | [], x => by simp [le]
  | y :: l, x => by
    simp only [List.cons_append, le, le_snoc l x, List.length_cons, Int.pow_succ]
    rw [Int.mul_add, ← Int.mul_assoc, Int.mul_comm 256 (256 ^ l.length)]
    omega

theorem or_add (a b : Int) (j : Nat) (h0 : 0 ≤ a) (hb : 0 ≤ b) (hab : a * 2 ^ j ≤ 18446744073709551615) (hlt : b < 2 ^ j) (hj : j < 64) : iOr .u64 (a * 2 ^ j) b = a * 2 ^ j + b := by
  obtain ⟨a, rfl⟩ := Int.eq_ofNat_of_zero_le h0
  obtain ⟨b, rfl⟩ := Int.eq_ofNat_of_zero_le hb
  have e1 : (a : Int) * 2 ^ j = ((a * 2 ^ j : Nat) : Int) := by simp
  have hlt' : b < 2 ^ j := by
    have := pow_cast j
    omega
  have hb64 : b < 2 ^ 64 := Nat.lt_of_lt_of_le hlt' (Nat.pow_le_pow_right (by omega) (by omega))
  rw [e1] at hab ⊢
  unfold iOr
  rw [BitVec.ofInt_natCast, BitVec.ofInt_natCast, BitVec.toNat_or, BitVec.toNat_ofNat, BitVec.toNat_ofNat, Nat.mod_eq_of_lt (by simp only [IntKind.bits]; omega), Nat.mod_eq_of_lt (by simpa only [IntKind.bits] using hb64)]
  have h := Nat.shiftLeft_add_eq_or_of_lt hlt' a
  rw [Nat.shiftLeft_eq] at h
  rw [← h]
  rw [wrap_u64]
  have h64 : a * 2 ^ j + b < 18446744073709551616 := by
    have h1 : 2 ^ 64 = 2 ^ (64 - j) * 2 ^ j := by rw [← Nat.pow_add]; congr 1; omega
    have h2 : a < 2 ^ (64 - j) := by
      apply Nat.lt_of_mul_lt_mul_right (a := 2 ^ j)
      omega
    have h3 : (a + 1) * 2 ^ j ≤ 2 ^ (64 - j) * 2 ^ j := Nat.mul_le_mul_right _ h2
    rw [Nat.add_mul, Nat.one_mul] at h3
    omega
  omega
theorem or_comm (k : IntKind) (a b : Int) : iOr k a b = iOr k b a := by
  unfold iOr
  rw [BitVec.or_comm]
theorem shl_small {a : Int} {j : Nat} (hj : j ≤ 64) (h0 : 0 ≤ a) (h : a * 2 ^ j ≤ 18446744073709551615) : iShl .u64 a (j : Int) = a * 2 ^ j := by
  unfold iShl
  rw [Int.toNat_natCast, Nat.min_eq_left (by simpa [IntKind.bits] using hj)]
  exact wrap_u64_id ⟨Int.mul_nonneg h0 (Int.le_of_lt (Int.pow_pos (by omega))), h⟩

theorem pow256 (i : Nat) : (256 : Int) ^ i = 2 ^ (8 * i) := by
  rw [Int.pow_mul]
  rfl
theorem byte_shl {x : Int} {i : Nat} (hi : i < 8) (h0 : 0 ≤ x) (h : x ≤ 255) : x * 2 ^ (8 * i) ≤ 18446744073709551615 := by
  have h1 : (2 : Int) ^ (8 * i) ≤ 2 ^ 56 := pow_le_int (by omega)
  have h2 : x * 2 ^ (8 * i) ≤ 255 * 2 ^ (8 * i) := Int.mul_le_mul_of_nonneg_right h (Int.le_of_lt (Int.pow_pos (by omega)))
  omega

theorem little_eq (b : List Int) (hb : Bytes b) (hl : b.length ≤ 8) : sh_digest_little b = some (le b) := by
  unfold sh_digest_little
  refine jn_count (fun i => (le (b.take i), b, (b.length : Int), (i : Int))) b.length (le b) rfl (fun i hi => ?_) (by rw [if_neg (by simp [bLt])]; simp) rfl
  have hx := hb b[i] (List.getElem_mem hi)
  have hbt : Bytes (b.take i) := fun y hy => hb y (List.mem_of_mem_take hy)
  have h1 := le_range hbt
  rw [List.length_take, Nat.min_eq_left (by omega), pow256] at h1
  simp only [bLt_true (show (i : Int) < (b.length : Int) by omega), if_true, bnd_eq]
  rw [atL_nat (List.getElem?_eq_getElem hi), mul_i64 (by omega), reqP_pos (by omega), add_i64 (by omega)]
  have e : (8 : Int) * (i : Int) = ((8 * i : Nat) : Int) := by omega
  have hs := byte_shl (i := i) (by omega) hx.1 hx.2
  rw [e, conv_u64_id (by omega), shl_small (by omega) hx.1 hs, or_comm, or_add _ _ _ hx.1 h1.1 hs h1.2 (by omega)]
  have e2 : le (b.take (i + 1)) = b[i] * 2 ^ (8 * i) + le (b.take i) := by
    rw [List.take_succ_eq_append_getElem hi, le_snoc, List.length_take, Nat.min_eq_left (by omega), pow256, Int.mul_comm, Int.add_comm]
  rw [← e2]
  rfl
end Go.Vm
/- The hash of bytes: program and reference compute the same. -/
namespace Go.Vm

theorem le_append : ∀ (l m : List Int), le (l ++ m) = le l + 256 ^ l.length * le m
  | [], m => by simp [le]
  | x :: l, m => by
    simp only [List.cons_append, le, le_append l m, List.length_cons, Int.pow_succ]
    rw [Int.mul_add, ← Int.mul_assoc, Int.mul_comm 256 (256 ^ l.length)]
    omega
theorem le_zeros (k : Nat) (x : Int) : le (List.replicate k 0 ++ [x]) = 256 ^ k * x := by
  induction k with
  | zero => simp [le]
  | succ k ih =>
    rw [List.replicate_succ, List.cons_append, le, ih, Int.pow_succ, Int.mul_comm (256 ^ k) 256, Int.mul_assoc]
    omega

/-- The word at a place: of eight bytes, or the last one. -/
def wordAt (b : List Int) (i : Nat) : Int := if i < b.length / 8 then le ((b.drop (8 * i)).take 8) else le (b.drop (8 * (b.length / 8))) + 2 ^ 56 * ((b.length : Int) % 256)
def sipV (k0 k1 : Int) (b : List Int) : Nat → Sip
  | 0 => ⟨iXor .u64 k0 8317987319222330741, iXor .u64 k1 7237128888997146477, iXor .u64 k0 7816392313619706465, iXor .u64 k1 8387220255154660723⟩
  | n + 1 => (sipV k0 k1 b n).word (wordAt b n)
/-- The hash. -/
def sip (k0 k1 : Int) (b : List Int) : Int := (sipV k0 k1 b (b.length / 8 + 1)).last

theorem Bytes.drop {b : List Int} (h : Bytes b) (n : Nat) : Bytes (b.drop n) := fun y hy => h y (List.mem_of_mem_drop hy)
theorem Bytes.take {b : List Int} (h : Bytes b) (n : Nat) : Bytes (b.take n) := fun y hy => h y (List.mem_of_mem_take hy)
theorem Bytes.append {a b : List Int} (h : Bytes a) (k : Bytes b) : Bytes (a ++ b) := fun y hy => (List.mem_append.1 hy).elim (h y) (k y)

theorem Sum_eq (k0 k1 : Int) (b : List Int) (hb : Bytes b) (hl : b.length ≤ 9223372036854775807) : sh_digest_Sum (k0, k1, b) = some (sip k0 k1 b) := by
  unfold sh_digest_Sum
  simp only [bnd_eq]
  refine jn_count (fun i => ((sipV k0 k1 b i).a, (sipV k0 k1 b i).b, (sipV k0 k1 b i).c, (sipV k0 k1 b i).d, b.drop (8 * i), iShl .u64 (iConv .u64 (b.length : Int)) 56)) (b.length / 8)
    ((sipV k0 k1 b (b.length / 8)).a, (sipV k0 k1 b (b.length / 8)).b, (sipV k0 k1 b (b.length / 8)).c, (sipV k0 k1 b (b.length / 8)).d, b.drop (8 * (b.length / 8)), iShl .u64 (iConv .u64 (b.length : Int)) 56) rfl (fun i hi => ?_) (by rw [if_neg (by simp [bGe]; omega)]) ?_
  · have h8 : 8 ≤ (b.drop (8 * i)).length := by rw [List.length_drop]; omega
    simp only [bGe_true (show ((b.drop (8 * i)).length : Int) ≥ 8 by omega), if_true]
    rw [reqP_pos (by omega), show ((8 : Int).toNat) = 8 from rfl, little_eq _ ((hb.drop _).take _) (by rw [List.length_take]; omega), Option.bind_some, word_eq, Option.bind_some, reqP_pos (by omega)]
    have e : wordAt b i = le ((b.drop (8 * i)).take 8) := if_pos hi
    simp only [Sip.t, sipV, e, List.drop_drop]
    rfl
  · have hr : (b.drop (8 * (b.length / 8))).length = b.length % 8 := by rw [List.length_drop]; omega
    have h1 := le_range (hb.drop (8 * (b.length / 8)))
    have h2 : (256 : Int) ^ (b.drop (8 * (b.length / 8))).length ≤ 2 ^ 56 := by
      rw [hr, pow256]
      exact pow_le_int (by omega)
    have e : iOr .u64 (iShl .u64 (iConv .u64 (b.length : Int)) 56) (le (b.drop (8 * (b.length / 8)))) = wordAt b (b.length / 8) := by
      have e1 : iShl .u64 (iConv .u64 (b.length : Int)) 56 = ((b.length : Int) % 256) * 2 ^ 56 := by
        rw [conv_u64_id (by omega)]
        have e0 : (2 : Int) ^ (min 56 64) = 72057594037927936 := by decide
        show IntKind.wrap .u64 ((b.length : Int) * 2 ^ (min 56 64)) = _
        rw [wrap_u64, e0]
        omega
      rw [e1, or_add _ _ _ (by omega) h1.1 (by omega) (by omega) (by omega), wordAt, if_neg (by omega), Int.mul_comm (2 ^ 56), Int.add_comm]
    simp only [little_eq _ (hb.drop (8 * (b.length / 8))) (by rw [hr]; omega), Option.bind_some, e, word_eq, Sip.t]
    have := round_eq ⟨((sipV k0 k1 b (b.length / 8)).word (wordAt b (b.length / 8))).a, ((sipV k0 k1 b (b.length / 8)).word (wordAt b (b.length / 8))).b, iXor .u64 ((sipV k0 k1 b (b.length / 8)).word (wordAt b (b.length / 8))).c 255, ((sipV k0 k1 b (b.length / 8)).word (wordAt b (b.length / 8))).d⟩ 4 (by omega)
    rw [show ((4 : Nat) : Int) = 4 from rfl] at this
    simp only [this, Option.bind_some, Sip.t]
    rfl

/-- A byte of a word of the reference. -/
def byteAt (b : List Int) (i q : Nat) : Int := if i + q < b.length then b.getD (i + q) 0 else if q = 7 then (b.length : Int) % 256 else 0
def refW (b : List Int) (i : Nat) : Nat → Int
  | 0 => 0
  | t + 1 => byteAt b i (7 - t) + 256 * refW b i t
theorem byteAt_range {b : List Int} (hb : Bytes b) (i q : Nat) : 0 ≤ byteAt b i q ∧ byteAt b i q ≤ 255 := by
  unfold byteAt
  split
  · rename_i h
    rw [List.getD_eq_getElem?_getD, List.getElem?_eq_getElem h]
    exact hb _ (List.getElem_mem h)
  · split <;> omega
theorem refW_range {b : List Int} (hb : Bytes b) (i : Nat) : ∀ t, 0 ≤ refW b i t ∧ refW b i t < 2 ^ (8 * t)
  | 0 => by simp [refW]
  | t + 1 => by
    have h1 := refW_range hb i t
    have h2 := byteAt_range hb i (7 - t)
    have h3 : (2 : Int) ^ (8 * (t + 1)) = 2 ^ (8 * t) * 256 := by
      rw [show 8 * (t + 1) = 8 * t + 8 by omega, Int.pow_add]
      rfl
    simp only [refW]
    omega
theorem refW_eq (b : List Int) (i : Nat) : refW b i 8 = le ((List.range 8).map (byteAt b i)) := by
  have e : List.range 8 = [0, 1, 2, 3, 4, 5, 6, 7] := rfl
  rw [e]
  simp only [refW, List.map_cons, List.map_nil, le]
theorem bytes_full {b : List Int} {i : Nat} (h : 8 * i + 8 ≤ b.length) : (List.range 8).map (byteAt b (8 * i)) = (b.drop (8 * i)).take 8 := by
  apply List.ext_getElem?
  intro j
  rw [List.getElem?_map, List.getElem?_take, List.getElem?_drop]
  by_cases hj : j < 8
  · rw [List.getElem?_range hj, if_pos hj, Option.map_some, byteAt, if_pos (by omega), List.getD_eq_getElem?_getD, List.getElem?_eq_getElem (by omega), Option.getD_some]
  · rw [if_neg hj, List.getElem?_eq_none (by simp; omega)]
    rfl
theorem bytes_last {b : List Int} : (List.range 8).map (byteAt b (8 * (b.length / 8))) = b.drop (8 * (b.length / 8)) ++ (List.replicate (7 - b.length % 8) 0 ++ [(b.length : Int) % 256]) := by
  have hr : (b.drop (8 * (b.length / 8))).length = b.length % 8 := by rw [List.length_drop]; omega
  apply List.ext_getElem?
  intro j
  rw [List.getElem?_map]
  by_cases hj : j < 8
  · rw [List.getElem?_range hj, Option.map_some, byteAt]
    by_cases h1 : j < b.length % 8
    · rw [if_pos (by omega), List.getElem?_append_left (by omega), List.getElem?_drop, List.getD_eq_getElem?_getD, List.getElem?_eq_getElem (by omega), Option.getD_some]
    · rw [if_neg (by omega), List.getElem?_append_right (by omega), hr]
      by_cases h2 : j = 7
      · subst h2
        rw [if_pos rfl, List.getElem?_append_right (by simp), List.length_replicate, show 7 - b.length % 8 - (7 - b.length % 8) = 0 by omega]
        rfl
      · rw [if_neg h2, List.getElem?_append_left (by simp; omega), List.getElem?_replicate, if_pos (by omega)]
  · rw [List.getElem?_eq_none (l := List.range 8) (by simp; omega), List.getElem?_eq_none (by simp; omega)]
    rfl
theorem refW_word {b : List Int} {i : Nat} (h : i ≤ b.length / 8) : refW b (8 * i) 8 = wordAt b i := by
  rw [refW_eq]
  by_cases hi : i < b.length / 8
  · rw [wordAt, if_pos hi, bytes_full (by omega)]
  · have : i = b.length / 8 := by omega
    subst this
    have hr : (b.drop (8 * (b.length / 8))).length = b.length % 8 := by rw [List.length_drop]; omega
    rw [wordAt, if_neg hi, bytes_last, le_append, le_zeros, ← Int.mul_assoc, ← Int.pow_add, hr, show b.length % 8 + (7 - b.length % 8) = 7 by omega]
    rfl

theorem refSum_eq (k0 k1 : Int) (b : List Int) (hb : Bytes b) (hl : b.length ≤ 9223372036854775000) : sh_passkeyref1_Sum (k0, k1, b) = some (sip k0 k1 b) := by
  unfold sh_passkeyref1_Sum
  refine jn_count (fun j => ((sipV k0 k1 b j).arr, b, ((8 * j : Nat) : Int))) (b.length / 8 + 1) (sipV k0 k1 b (b.length / 8 + 1)).arr rfl (fun j hj => ?_) (by rw [if_neg (by simp [bLe]; omega)]) ?_
  · simp only [bLe_true (show ((8 * j : Nat) : Int) ≤ (b.length : Int) by omega), if_true]
    refine jn_count (fun t => ((sipV k0 k1 b j).arr, b, ((8 * j : Nat) : Int), refW b (8 * j) t, (7 : Int) - (t : Int))) 8 ((sipV k0 k1 b j).arr, b, ((8 * j : Nat) : Int), refW b (8 * j) 8) rfl (fun t ht => ?_) (by rw [if_neg (by simp [bGe])]) ?_
    · have hw := refW_range hb (8 * j) t
      have hq := byteAt_range hb (8 * j) (7 - t)
      have hw2 : (2 : Int) ^ (8 * t) ≤ 2 ^ 56 := pow_le_int (by omega)
      have e0 : iAdd .i64 ((8 * j : Nat) : Int) (7 - (t : Int)) = ((8 * j + (7 - t) : Nat) : Int) := by
        rw [add_i64 (by omega)]
        omega
      have e1 : iOr .u64 (iShl .u64 (refW b (8 * j) t) 8) (iConv .u64 (byteAt b (8 * j) (7 - t))) = refW b (8 * j) (t + 1) := by
        rw [conv_u64_id (by omega), show (8 : Int) = ((8 : Nat) : Int) from rfl, shl_small (by omega) hw.1 (by omega), or_add _ _ _ hw.1 hq.1 (by omega) (by omega) (by omega), refW]
        omega
      have e2 : iSub .i64 (7 - (t : Int)) 1 = 7 - ((t + 1 : Nat) : Int) := by
        rw [sub_i64 (by omega)]
        omega
      simp only [bGe_true (show (7 : Int) - (t : Int) ≥ 0 by omega), if_true, bnd_eq, e0]
      by_cases h1 : 8 * j + (7 - t) < b.length
      · have e3 : byteAt b (8 * j) (7 - t) = b[8 * j + (7 - t)] := by
          rw [byteAt, if_pos h1, List.getD_eq_getElem?_getD, List.getElem?_eq_getElem h1, Option.getD_some]
        simp only [bLt_true (show ((8 * j + (7 - t) : Nat) : Int) < (b.length : Int) by omega), if_true]
        rw [atL_nat (List.getElem?_eq_getElem h1), ← e3, jn_inl, jn_inl, e1, e2]
      · simp only [bLt_false (show (b.length : Int) ≤ ((8 * j + (7 - t) : Nat) : Int) by omega), Bool.false_eq_true, if_false]
        by_cases h2 : t = 0
        · subst h2
          have e3 : byteAt b (8 * j) (7 - 0) = (b.length : Int) % 256 := by
            rw [byteAt, if_neg h1, if_pos rfl]
          simp only [bEq_true (show (7 : Int) - ((0 : Nat) : Int) = 7 by omega), if_true, conv_u8]
          rw [← e3, jn_inl, jn_inl, e1, e2]
        · have e3 : byteAt b (8 * j) (7 - t) = 0 := by
            rw [byteAt, if_neg h1, if_neg (by omega)]
          simp only [bEq_false (show (7 : Int) - (t : Int) ≠ 7 by omega), Bool.false_eq_true, if_false]
          rw [← e3, jn_inl, jn_inl, e1, e2]
    · simp only [req4_0, req4_3, bnd_eq, refW_word (show j ≤ b.length / 8 by omega)]
      have r1 := refRound_eq ⟨(sipV k0 k1 b j).a, (sipV k0 k1 b j).b, (sipV k0 k1 b j).c, iXor .u64 (sipV k0 k1 b j).d (wordAt b j)⟩
      simp only [Sip.arr, rd4_3, wr4_3] at r1 ⊢
      rw [r1, Option.bind_some]
      have r2 := refRound_eq (⟨(sipV k0 k1 b j).a, (sipV k0 k1 b j).b, (sipV k0 k1 b j).c, iXor .u64 (sipV k0 k1 b j).d (wordAt b j)⟩ : Sip).round
      simp only [Sip.arr] at r2
      rw [r2, Option.bind_some, rd4_0, wr4_0, add_i64 (by omega)]
      have e : ((8 * j : Nat) : Int) + 8 = ((8 * (j + 1) : Nat) : Int) := by omega
      rw [e]
      rfl
  · unfold sip
    generalize sipV k0 k1 b (b.length / 8 + 1) = v at *
    simp only [req4_0, req4_1, req4_2, req4_3, bnd_eq]
    have r1 := refRound_eq ⟨v.a, v.b, iXor .u64 v.c 255, v.d⟩
    have r2 := refRound_eq (⟨v.a, v.b, iXor .u64 v.c 255, v.d⟩ : Sip).round
    have r3 := refRound_eq (⟨v.a, v.b, iXor .u64 v.c 255, v.d⟩ : Sip).round.round
    have r4 := refRound_eq (⟨v.a, v.b, iXor .u64 v.c 255, v.d⟩ : Sip).round.round.round
    simp only [Sip.arr] at r1 r2 r3 r4
    simp only [Sip.arr, rd4_2, wr4_2, r1, r2, r3, r4, Option.bind_some, rd4_0, rd4_1, rd4_3]
    rfl
end Go.Vm
/- One-time signatures: words, chains, signatures. -/
namespace Go.Vm

/-! ### Words -/
def wordB (w : Int) : List Int := (List.range 8).map fun i => iConv .u8 (w / 2 ^ (56 - 8 * i))
def wordsB (l : List Int) : List Int := l.flatMap wordB
theorem wordB_len (w : Int) : (wordB w).length = 8 := by simp [wordB]
theorem wordsB_len : ∀ l : List Int, (wordsB l).length = 8 * l.length
  | [] => rfl
  | x :: l => by
    have := wordsB_len l
    simp only [wordsB, List.flatMap_cons, List.length_append, List.length_cons, wordB_len] at *
    omega
theorem wordB_bytes (w : Int) : Bytes (wordB w) := fun x hx => by
  simp only [wordB, List.mem_map] at hx
  obtain ⟨i, _, rfl⟩ := hx
  rw [conv_u8]
  omega
theorem wordsB_bytes (l : List Int) : Bytes (wordsB l) := fun x hx => by
  obtain ⟨w, _, h⟩ := List.mem_flatMap.1 hx
  exact wordB_bytes w x h
theorem wordsB_append (l m : List Int) : wordsB (l ++ m) = wordsB l ++ wordsB m := List.flatMap_append
theorem wordsB_one (x : Int) : wordsB [x] = wordB x := by simp [wordsB]
theorem wordsB_take_succ {l : List Int} {i : Nat} (h : i < l.length) : wordsB (l.take (i + 1)) = wordsB (l.take i) ++ wordB l[i] := by
  rw [List.take_succ_eq_append_getElem h, wordsB_append, wordsB_one]
theorem wordB_part (w : Int) (j : Nat) : (List.range (j + 1)).map (fun i => iConv .u8 (w / 2 ^ (56 - 8 * i))) = (List.range j).map (fun i => iConv .u8 (w / 2 ^ (56 - 8 * i))) ++ [iConv .u8 (w / 2 ^ (56 - 8 * j))] := range_map_snoc _ _

theorem Words_eq (l : List Int) (hl : l.length * 8 ≤ 140737488355328) : sh_digest_Words l = some (wordsB l) := by
  unfold sh_digest_Words
  refine jn_count (fun i => (wordsB (l.take i), l, (l.length : Int), (i : Int))) l.length (wordsB l) rfl (fun i hi => ?_) (by rw [if_neg (by simp [bLt])]; simp) rfl
  simp only [bLt_true (show (i : Int) < (l.length : Int) by omega), if_true]
  rw [atL_nat (List.getElem?_eq_getElem hi)]
  refine jn_count (fun j => (wordsB (l.take i) ++ (List.range j).map (fun q => iConv .u8 (l[i] / 2 ^ (56 - 8 * q))), l[i], l, (l.length : Int), (i : Int), (j : Int))) 8 (wordsB (l.take (i + 1)), l, (l.length : Int), (i : Int)) (by simp) (fun j hj => ?_) (by rw [if_neg (by simp [bLt]), wordsB_take_succ hi]; rfl) (by simp only [bnd_eq]; rw [add_i64 (by omega)]; rfl)
  simp only [bLt_true (show (j : Int) < 8 by omega), if_true, bnd_eq]
  have e : iSub .i64 56 (iMul .i64 8 (j : Int)) = ((56 - 8 * j : Nat) : Int) := by
    rw [mul_i64 (by omega), sub_i64 (by omega)]
    omega
  have hlen : (wordsB (l.take i)).length = 8 * i := by rw [wordsB_len, List.length_take]; omega
  rw [e, reqP_pos (by omega), shr_eq _ _ _ (by simp [IntKind.bits]; omega)]
  rw [reqP_pos (by simp [hlen]; omega), add_i64 (by omega), wordB_part, List.append_assoc]
  rfl

theorem refWords_eq (l : List Int) (hl : l.length * 8 ≤ 140737488355328) : sh_passkeyref1_Words l = some (wordsB l) := by
  unfold sh_passkeyref1_Words
  refine jn_count (fun i => (wordsB (l.take i), l, (i : Int))) l.length (wordsB l) rfl (fun i hi => ?_) (by rw [if_neg (by simp [bLt])]; simp) rfl
  simp only [bLt_true (show (i : Int) < (l.length : Int) by omega), if_true]
  refine jn_count (fun j => (wordsB (l.take i) ++ (List.range j).map (fun q => iConv .u8 (l[i] / 2 ^ (56 - 8 * q))), l, (i : Int), 7 - (j : Int))) 8 (wordsB (l.take (i + 1)), l, (i : Int)) (by simp) (fun j hj => ?_) (by rw [if_neg (by simp [bGe]), wordsB_take_succ hi]; rfl) (by simp only [bnd_eq]; rw [add_i64 (by omega)]; rfl)
  simp only [bGe_true (show (7 : Int) - (j : Int) ≥ 0 by omega), if_true]
  rw [atL_nat (List.getElem?_eq_getElem hi)]
  have e : iConv .u64 (iMul .i64 8 (7 - (j : Int))) = ((56 - 8 * j : Nat) : Int) := by
    rw [mul_i64 (by omega), conv_u64_id (by omega)]
    omega
  have hlen : (wordsB (l.take i)).length = 8 * i := by rw [wordsB_len, List.length_take]; omega
  simp only [bnd_eq]
  rw [e, reqP_pos (by omega), shr_eq _ _ _ (by simp [IntKind.bits]; omega)]
  rw [reqP_pos (by simp [hlen]; omega), sub_i64 (by omega), wordB_part, List.append_assoc]
  have e2 : (7 : Int) - (j : Int) - 1 = 7 - ((j + 1 : Nat) : Int) := by omega
  rw [e2]
  rfl

/-! ### Hash, Mac -/
def hashS (dom : Int) (b : List Int) : Int := sip (iConv .u64 dom) 0 b
def macS (key dom : Int) (b : List Int) : Int := sip key (iAdd .u64 1 (iConv .u64 dom)) b
theorem Hash_eq (dom : Int) {b : List Int} (hb : Bytes b) (hl : b.length ≤ 140737488355328) : sh_digest_Hash (dom, b) = some (hashS dom b) := by
  unfold sh_digest_Hash
  simp only [Sum_eq _ _ b hb (by omega), Option.bind_some]
  rfl
theorem refMac_eq (key dom : Int) {b : List Int} (hb : Bytes b) (hl : b.length ≤ 140737488355328) : sh_passkeyref1_Mac (key, dom, b) = some (macS key dom b) := by
  unfold sh_passkeyref1_Mac
  simp only [refSum_eq _ _ b hb (by omega), Option.bind_some]
  rfl
theorem rangeU64_wrap (n : Int) : U64 (IntKind.wrap .u64 n) := by rw [wrap_u64]; omega
/-! ### Chains -/
end Go.Vm
/- Leases: program and reference compute the same. -/
namespace Go.Vm

/-! ### Loops that look for something -/
section
variable {σ α : Type}
end

/-! ### Validity, the index of a tag -/
theorem getD_get {α : Type} {l : List α} {i : Nat} {d : α} (h : i < l.length) : l.getD i d = l[i] := by
  rw [List.getD_eq_getElem?_getD, List.getElem?_eq_getElem h, Option.getD_some]
/-! ### The law's own list -/
end Go.Vm
/- Leases: grants, leaves, parts, codes. -/
namespace Go.Vm

/-! ### Grant -/
/-! ### A valid list, and a tag's place -/
/-! ### Take, Part, Drop -/
end Go.Vm
/- Leases: parts; the laws. -/
namespace Go.Vm

/-! ### The laws -/
end Go.Vm
/- Leases: their bytes. -/
namespace Go.Vm

/-- So many bytes as a number, the greatest first. -/
def beN (b : List Int) : Nat → Int
  | 0 => 0
  | t + 1 => beN b t * 256 + b.getD t 0
theorem getD_byte {b : List Int} (hb : Bytes b) (t : Nat) : 0 ≤ b.getD t 0 ∧ b.getD t 0 ≤ 255 := by
  rw [List.getD_eq_getElem?_getD]
  cases h : b[t]? with
  | none => simp
  | some x => exact hb x (List.mem_of_getElem? h)
theorem beN_range {b : List Int} (hb : Bytes b) : ∀ t, 0 ≤ beN b t ∧ beN b t < 2 ^ (8 * t)
  | 0 => by simp [beN]
  | t + 1 => by
    have h1 := beN_range hb t
    have h2 := getD_byte hb t
    have h3 : (2 : Int) ^ (8 * (t + 1)) = 2 ^ (8 * t) * 256 := by
      rw [show 8 * (t + 1) = 8 * t + 8 by omega, Int.pow_add]
      rfl
    simp only [beN]
    omega
theorem be_step {b : List Int} (hb : Bytes b) {t : Nat} (ht : t < 8) : iOr .u64 (iShl .u64 (beN b t) 8) (iConv .u64 (b.getD t 0)) = beN b (t + 1) := by
  have h1 := beN_range hb t
  have h2 := getD_byte hb t
  have h3 : (2 : Int) ^ (8 * t) ≤ 2 ^ 56 := pow_le_int (by omega)
  rw [conv_u64_id (by omega), show (8 : Int) = ((8 : Nat) : Int) from rfl, shl_small (by omega) h1.1 (by omega), or_add _ _ _ h1.1 h2.1 (by omega) (by omega) (by omega), beN]
  omega
theorem word10_eq (b : List Int) (hb : Bytes b) (hl : 8 ≤ b.length) : sh_lease_word b = some (beN b 8) := by
  unfold sh_lease_word
  rw [reqP_pos (by omega)]
  have h8 : (b.take (8 : Int).toNat).length = 8 := by rw [List.length_take]; simp; omega
  refine jn_count (fun t => (beN b t, b.take (8 : Int).toNat, ((b.take (8 : Int).toNat).length : Int), (t : Int))) 8 (beN b 8) rfl (fun t ht => ?_) (by rw [h8, if_neg (by simp [bLt])]) rfl
  dsimp only
  rw [if_pos (bLt_true (by rw [h8]; omega)), atL_nat (List.getElem?_eq_getElem (by rw [h8]; exact ht)), bnd_eq, bnd_eq]
  have e : (b.take (8 : Int).toNat)[t]'(by rw [h8]; exact ht) = b.getD t 0 := by rw [List.getElem_take, getD_get (by omega)]
  rw [e, be_step hb ht, add_i64 (by omega)]
  rfl
theorem sEq_self (s : List UInt8) : sEq s s = true := by simp [sEq]
end Go.Vm
/- Authenticator data: program and reference compute the same. -/
namespace Go.Vm

def tallS (h : Int) : Bool := if bLe 0 h then bLe h 4 else false
theorem tall_eq (h : Int) : sh_treekey_tall h = some (tallS h) := by
  unfold sh_treekey_tall tallS
  by_cases c : bLe 0 h = true
  · rw [if_pos (show bGe h 0 = true from c), if_pos c]
    rfl
  · rw [if_neg (show ¬ bGe h 0 = true from c), if_neg c]
theorem height_eq (h : Int) : sh_passkeyref3_height h = some (tallS h) := by
  unfold sh_passkeyref3_height tallS
  by_cases c : bLe 0 h = true
  · rw [if_pos (show bGe h 0 = true from c), if_pos c]
    rfl
  · rw [if_neg (show ¬ bGe h 0 = true from c), if_neg c]
def encKeyS (k : Int × Int) : List Int × Int := if (!tallS k.1) then ([], 9) else (iConv .u8 k.1 :: wordB k.2, 0)
theorem EncodeKey_eq (k : Int × Int) : sh_treekey_EncodeKey k = some (encKeyS k) := by
  unfold sh_treekey_EncodeKey encKeyS
  rw [tall_eq, Option.bind_some]
  by_cases h : (!tallS k.1) = true
  · rw [if_pos h, if_pos h]
  · rw [if_neg h, if_neg h, bnd_eq, bnd_eq, Words_eq _ (by simp), Option.bind_some, reqP_pos (by rw [wordsB_len]; simp), bnd_eq]
    have : wordsB ((List.replicate 1 (0 : Int)).set 0 k.2) = wordB k.2 := wordsB_one _
    rw [this]
    rfl
theorem refEncodeKey_eq (k : Int × Int) : sh_passkeyref3_EncodeKey k = some (encKeyS k) := by
  unfold sh_passkeyref3_EncodeKey encKeyS
  rw [height_eq, Option.bind_some]
  by_cases h : (!tallS k.1) = true
  · rw [if_pos h, if_pos h]
  · rw [if_neg h, if_neg h, bnd_eq, bnd_eq, refWords_eq _ (by simp), Option.bind_some, reqP_pos (by rw [wordsB_len]; simp), bnd_eq]
    have : wordsB ((List.replicate 1 (0 : Int)).set 0 k.2) = wordB k.2 := wordsB_one _
    rw [this]
    rfl

/-- Its parts: RP, flags, counter, range, model, id, height, root. -/
abbrev AD := Int × Int × Int × Int × Int × List Int × Int × Int
def valD2 (x : AD) : Int :=
  if bEq (iAnd .i64 x.2.1 64) 0 then (if bNe x.2.2.2.2.1 0 then 4 else if bGt (x.2.2.2.2.2.1.length : Int) 0 then 4 else if (!(bEq x.2.2.2.2.2.2.1 0 && (bEq x.2.2.2.2.2.2.2 0 && true))) then 4 else 0)
  else if bNe (x.2.2.2.2.2.1.length : Int) 176 then 4 else (encKeyS (x.2.2.2.2.2.2.1, x.2.2.2.2.2.2.2)).2
def valD1 (x : AD) : Int := if bNe (iAnd .i64 x.2.1 16) 0 then (if bEq (iAnd .i64 x.2.1 8) 0 then 18 else valD2 x) else valD2 x
def valD (x : AD) : Int :=
  if bNe (iAndNot .i64 x.2.1 93) 0 then 9 else if bLt x.2.2.1 0 then 9 else if bGt x.2.2.1 16 then 9 else if bLt x.2.2.2.1 0 then 9 else if bGe x.2.2.2.1 16 then 9 else valD1 x
theorem Validate14_eq (x : AD) : sh_authdata_Validate x = some (valD x) := by
  have k2 : (if (bEq (iAnd .i64 x.2.1 (64 : Int)) (0 : Int)) then
    if (bNe x.2.2.2.2.1 (0 : Int)) then
      some (4 : Int)
    else
      if (bGt (x.2.2.2.2.2.1.length : Int) (0 : Int)) then
        some (4 : Int)
      else
        if (!((bEq x.2.2.2.2.2.2.1 (0 : Int)) && ((bEq x.2.2.2.2.2.2.2 (0 : Int)) && true))) then
          some (4 : Int)
        else
          some (0 : Int)
    else
    if (bNe (x.2.2.2.2.2.1.length : Int) (176 : Int)) then
      some (4 : Int)
    else
      Option.bind (sh_treekey_EncodeKey (x.2.2.2.2.2.2.1, x.2.2.2.2.2.2.2)) fun r2 =>
      some r2.2) = some (valD2 x) := by
    unfold valD2
    rw [EncodeKey_eq, Option.bind_some]
    split
    · split
      · rfl
      · split
        · rfl
        · split <;> rfl
    · split <;> rfl
  unfold sh_authdata_Validate valD valD1
  by_cases h1 : bNe (iAndNot .i64 x.2.1 93) 0 = true
  · rw [if_pos h1, if_pos h1, jn_inr]
  rw [if_neg h1, if_neg h1]
  by_cases h2 : bLt x.2.2.1 0 = true
  · rw [if_pos h2, if_pos h2, jn_inr]
  rw [if_neg h2, if_neg h2]
  by_cases h3 : bGt x.2.2.1 16 = true
  · rw [if_pos h3, if_pos h3, jn_inr]
  rw [if_neg h3, if_neg h3]
  by_cases h4 : bLt x.2.2.2.1 0 = true
  · rw [if_pos h4, if_pos h4, jn_inr]
  rw [if_neg h4, if_neg h4]
  by_cases h5 : bGe x.2.2.2.1 16 = true
  · rw [if_pos h5, if_pos h5, jn_inr]
  rw [if_neg h5, if_neg h5, jn_inl]
  dsimp only
  by_cases h6 : bNe (iAnd .i64 x.2.1 16) 0 = true
  · rw [if_pos h6, if_pos h6]
    by_cases h7 : bEq (iAnd .i64 x.2.1 8) 0 = true
    · rw [if_pos h7, if_pos h7, jn_inr]
    · rw [if_neg h7, if_neg h7, jn_inl]
      exact k2
  · rw [if_neg h6, if_neg h6, jn_inl]
    exact k2
theorem within_eq (a b c : Int) : sh_passkeyref14_within (a, b, c) = some (if bLe b a then bLe a c else false) := by
  unfold sh_passkeyref14_within
  by_cases h : bLe b a = true
  · rw [if_pos (show bGe a b = true from h), if_pos h]
    rfl
  · rw [if_neg (show ¬ bGe a b = true from h), if_neg h]
theorem refValidate14_eq (x : AD) : sh_passkeyref14_ValidateData x = some (valD x) := by
  have k2 : (if (bEq (iAnd .i64 x.2.1 (64 : Int)) (0 : Int)) then
    if (bNe x.2.2.2.2.1 (0 : Int)) then
      some (4 : Int)
    else
      if (bGt (x.2.2.2.2.2.1.length : Int) (0 : Int)) then
        some (4 : Int)
      else
        if (!((bEq x.2.2.2.2.2.2.1 (0 : Int)) && ((bEq x.2.2.2.2.2.2.2 (0 : Int)) && true))) then
          some (4 : Int)
        else
          some (0 : Int)
    else
    if (bNe (x.2.2.2.2.2.1.length : Int) (176 : Int)) then
      some (4 : Int)
    else
      Option.bind (sh_passkeyref3_EncodeKey (x.2.2.2.2.2.2.1, x.2.2.2.2.2.2.2)) fun r2 =>
      some r2.2) = some (valD2 x) := by
    unfold valD2
    rw [refEncodeKey_eq, Option.bind_some]
    split
    · split
      · rfl
      · split
        · rfl
        · split <;> rfl
    · split <;> rfl
  unfold sh_passkeyref14_ValidateData valD valD1
  by_cases h1 : bNe (iAndNot .i64 x.2.1 93) 0 = true
  · rw [if_pos h1, if_pos h1, jn_inr]
  rw [if_neg h1, if_neg h1, within_eq, Option.bind_some]
  by_cases h2 : bLt x.2.2.1 0 = true
  · rw [if_pos h2, if_neg (show ¬ bLe 0 x.2.2.1 = true by simp only [bLt, bLe, decide_eq_true_eq] at *; omega), if_pos (by simp), jn_inr]
  rw [if_neg h2, if_pos (show bLe 0 x.2.2.1 = true by simp only [bLt, bLe, decide_eq_true_eq] at *; omega)]
  by_cases h3 : bGt x.2.2.1 16 = true
  · rw [if_pos h3, if_pos (show (!bLe x.2.2.1 16) = true by simp only [bGt, bLe, decide_eq_true_eq, Bool.not_eq_true', decide_eq_false_iff_not] at *; omega), jn_inr]
  rw [if_neg h3, if_neg (show ¬ (!bLe x.2.2.1 16) = true by simp only [bGt, bLe, decide_eq_true_eq, Bool.not_eq_true', decide_eq_false_iff_not] at *; omega), within_eq, Option.bind_some]
  by_cases h4 : bLt x.2.2.2.1 0 = true
  · rw [if_pos h4, if_neg (show ¬ bLe 0 x.2.2.2.1 = true by simp only [bLt, bLe, decide_eq_true_eq] at *; omega), if_pos (by simp), jn_inr]
  rw [if_neg h4, if_pos (show bLe 0 x.2.2.2.1 = true by simp only [bLt, bLe, decide_eq_true_eq] at *; omega)]
  by_cases h5 : bGe x.2.2.2.1 16 = true
  · rw [if_pos h5, if_pos (show (!bLe x.2.2.2.1 15) = true by simp only [bGe, bLe, decide_eq_true_eq, Bool.not_eq_true', decide_eq_false_iff_not] at *; omega), jn_inr]
  rw [if_neg h5, if_neg (show ¬ (!bLe x.2.2.2.1 15) = true by simp only [bGe, bLe, decide_eq_true_eq, Bool.not_eq_true', decide_eq_false_iff_not] at *; omega), jn_inl]
  dsimp only
  by_cases h6 : bNe (iAnd .i64 x.2.1 16) 0 = true
  · rw [if_pos h6, if_pos h6]
    by_cases h7 : bEq (iAnd .i64 x.2.1 8) 0 = true
    · rw [if_pos h7, if_pos h7, jn_inr]
    · rw [if_neg h7, if_neg h7, jn_inl]
      exact k2
  · rw [if_neg h6, if_neg h6, jn_inl]
    exact k2

/-! ### Encoding -/
def headD (x : AD) : List Int := wordB x.1 ++ [iConv .u8 x.2.1, iConv .u8 x.2.2.1, iConv .u8 x.2.2.2.1]
def encD (x : AD) : List Int × Int := if bNe (valD x) 0 then ([], valD x) else
  (if bNe (iAnd .i64 x.2.1 64) 0 then headD x ++ wordB x.2.2.2.2.1 ++ x.2.2.2.2.2.1 ++ (encKeyS (x.2.2.2.2.2.2.1, x.2.2.2.2.2.2.2)).1 else headD x, 0)
theorem headD_len (x : AD) : (headD x).length = 11 := by simp [headD, wordB_len]
theorem encKeyS_len (k : Int × Int) : (encKeyS k).1.length ≤ 9 := by
  unfold encKeyS
  split
  · simp
  · simp [wordB_len]
theorem Encode14_eq (x : AD) (hl : x.2.2.2.2.2.1.length ≤ 1000000) : sh_authdata_Encode x = some (encD x) := by
  unfold sh_authdata_Encode encD
  have hv : sh_authdata_Validate (x.1, (x.2.1, (x.2.2.1, (x.2.2.2.1, (x.2.2.2.2.1, (x.2.2.2.2.2.1, (x.2.2.2.2.2.2.1, x.2.2.2.2.2.2.2))))))) = some (valD x) := Validate14_eq x
  rw [hv, Option.bind_some]
  by_cases h : bNe (valD x) 0 = true
  · rw [if_pos h, if_pos h]
  · rw [if_neg h, if_neg h, bnd_eq, Words_eq _ (by simp), Option.bind_some, bnd_eq, reqP_pos (by rw [wordsB_len]; simp), bnd_eq]
    have hw : wordsB ((List.replicate 1 (0 : Int)).set 0 x.1) ++ (((List.replicate 3 (0 : Int)).set 0 (iConv .u8 x.2.1)).set 1 (iConv .u8 x.2.2.1)).set 2 (iConv .u8 x.2.2.2.1) = headD x := by
      have : wordsB ((List.replicate 1 (0 : Int)).set 0 x.1) = wordB x.1 := wordsB_one _
      rw [this]
      rfl
    rw [hw]
    have hh := headD_len x
    by_cases h2 : bNe (iAnd .i64 x.2.1 64) 0 = true
    · rw [if_pos h2, if_pos h2, EncodeKey_eq, Option.bind_some, bnd_eq, Words_eq _ (by simp), Option.bind_some]
      have hm : wordsB ((List.replicate 1 (0 : Int)).set 0 x.2.2.2.2.1) = wordB x.2.2.2.2.1 := wordsB_one _
      have hk := encKeyS_len (x.2.2.2.2.2.2.1, x.2.2.2.2.2.2.2)
      have hml := wordB_len x.2.2.2.2.1
      rw [hm]
      simp only [bnd_eq]
      rw [reqP_pos (by omega), reqP_pos (by rw [List.length_append]; omega), reqP_pos (by rw [List.length_append, List.length_append]; omega), jn_inl]
    · rw [if_neg h2, if_neg h2, jn_inl]
theorem refEncode14_eq (x : AD) (hl : x.2.2.2.2.2.1.length ≤ 1000000) : sh_passkeyref14_EncodeData x = some (encD x) := by
  unfold sh_passkeyref14_EncodeData encD
  have hv : sh_passkeyref14_ValidateData (x.1, (x.2.1, (x.2.2.1, (x.2.2.2.1, (x.2.2.2.2.1, (x.2.2.2.2.2.1, (x.2.2.2.2.2.2.1, x.2.2.2.2.2.2.2))))))) = some (valD x) := refValidate14_eq x
  rw [hv, Option.bind_some]
  by_cases h : bNe (valD x) 0 = true
  · rw [if_pos h, if_pos h]
  · rw [if_neg h, if_neg h, bnd_eq, refWords_eq _ (by simp), Option.bind_some, bnd_eq, reqP_pos (by rw [wordsB_len]; simp), bnd_eq]
    have hw : wordsB ((List.replicate 1 (0 : Int)).set 0 x.1) ++ (((List.replicate 3 (0 : Int)).set 0 (iConv .u8 x.2.1)).set 1 (iConv .u8 x.2.2.1)).set 2 (iConv .u8 x.2.2.2.1) = headD x := by
      have : wordsB ((List.replicate 1 (0 : Int)).set 0 x.1) = wordB x.1 := wordsB_one _
      rw [this]
      rfl
    rw [hw]
    have hh := headD_len x
    by_cases h2 : bNe (iAnd .i64 x.2.1 64) 0 = true
    · rw [if_pos h2, if_pos h2, refEncodeKey_eq, Option.bind_some, bnd_eq, refWords_eq _ (by simp), Option.bind_some]
      have hm : wordsB ((List.replicate 1 (0 : Int)).set 0 x.2.2.2.2.1) = wordB x.2.2.2.2.1 := wordsB_one _
      have hk := encKeyS_len (x.2.2.2.2.2.2.1, x.2.2.2.2.2.2.2)
      have hml := wordB_len x.2.2.2.2.1
      rw [hm]
      simp only [bnd_eq]
      rw [reqP_pos (by omega), reqP_pos (by rw [List.length_append]; omega), reqP_pos (by rw [List.length_append, List.length_append]; omega), jn_inl]
    · rw [if_neg h2, if_neg h2, jn_inl]
end Go.Vm
/- Authenticator data: the law's own data; hashes; the first laws. -/
namespace Go.Vm

def stream (seed lab : Int) (i : Nat) : List Int := (List.range i).flatMap fun (j : Nat) => wordB (macS seed 5 (wordsB [lab, iConv .u64 (j : Int)]))
theorem stream_succ (seed lab : Int) (i : Nat) : stream seed lab (i + 1) = stream seed lab i ++ wordB (macS seed 5 (wordsB [lab, iConv .u64 (i : Int)])) := by
  unfold stream
  rw [List.range_succ, List.flatMap_append]
  simp
theorem stream_len (seed lab : Int) : ∀ i, (stream seed lab i).length = 8 * i
  | 0 => rfl
  | i + 1 => by rw [stream_succ, List.length_append, stream_len seed lab i, wordB_len]; omega
theorem stream_bytes (seed lab : Int) : ∀ i, Bytes (stream seed lab i)
  | 0 => fun x hx => by cases hx
  | i + 1 => by rw [stream_succ]; exact (stream_bytes seed lab i).append (wordB_bytes _)
theorem Stream_eq (seed lab : Int) : sh_passkeyref3_Stream (seed, lab, 176) = some (stream seed lab 22) := by
  unfold sh_passkeyref3_Stream
  dsimp only
  have e : iMin (iMax 176 0) 1024 = 176 := by decide
  rw [e, bnd_eq]
  refine jn_count (fun i => (stream seed lab i, seed, lab, (176 : Int), (i : Int))) 22 (stream seed lab 22, 176) rfl (fun i hi => ?_) (by rw [if_neg (by rw [bLt_false (by have := stream_len seed lab 22; dsimp only; omega)]; simp)]) ?_
  · have hl := stream_len seed lab i
    dsimp only
    rw [if_pos (bLt_true (by omega)), bnd_eq, refWords_eq _ (by simp), Option.bind_some, refMac_eq _ _ (wordsB_bytes _) (by rw [wordsB_len]; simp), Option.bind_some, bnd_eq, refWords_eq _ (by simp), Option.bind_some, reqP_pos (by rw [wordsB_len]; simp; omega), bnd_eq, bnd_eq, add_i64 (by omega)]
    have hw : ∀ y : Int, wordsB ((List.replicate 1 (0 : Int)).set 0 y) = wordB y := fun y => wordsB_one y
    rw [hw, stream_succ]
    rfl
  · have hl := stream_len seed lab 22
    dsimp only
    rw [reqP_pos (by omega)]
    have : ((stream seed lab 22).drop (0 + 0)).take ((176 : Int).toNat - 0) = stream seed lab 22 := List.take_of_length_le (by simp [hl])
    rw [this]
theorem ID_ok (x : Int) : ∃ l, sh_passkeybase_ID x = some l ∧ l.length = 176 ∧ Bytes l := by
  unfold sh_passkeybase_ID
  rw [Stream_eq, Option.bind_some]
  exact ⟨_, rfl, stream_len _ _ 22, stream_bytes _ _ 22⟩

/-- What is known of the law's own data. -/
def OkD (y : AD) (rp : Int) : Prop := y.1 = rp ∧ y.2.2.2.2.2.1.length ≤ 176 ∧ Bytes y.2.2.2.2.2.1 ∧ U64 y.2.2.2.2.1 ∧ U64 y.2.2.2.2.2.2.2 ∧ I64 y.2.1
theorem rangeI64_wrap (n : Int) : I64 (IntKind.wrap .i64 n) := by rw [wrap_i64]; split <;> omega
theorem bytes_nil : Bytes [] := fun x hx => by cases hx
theorem made14_ok (n rp : Int) : ∃ y, sh_passkeylaw14_made (n, rp) = some y ∧ OkD y rp := by
  unfold sh_passkeylaw14_made
  dsimp only
  -- after the flags
  generalize hm : (if bNe (iAnd .i64 (iOr .i64 (iAnd .i64 n 5) (iMul .i64 (iAnd .i64 n 8) (iAnd .i64 (iShr .i64 n 4) 1))) 8) 0 = true then _ else _ : Option ((Int × Int × Int × Int × Int × Int × Int × Int × Int × Int × Int × Int × Int × Int × Int × Int) ⊕ (Int × Int × Int × Int × Int × (List Int) × Int × Int))) = m
  have h1 : ∃ fl c r, m = some (.inl (0, 0, 0, 0, 0, 0, 0, rp, fl, c, r, 0, 0, 0, n, rp)) ∧ I64 fl := by
    rw [← hm]
    split
    · exact ⟨_, _, _, rfl, rangeI64_wrap _⟩
    · exact ⟨_, _, _, rfl, rangeI64_wrap _⟩
  clear hm
  obtain ⟨fl, c, r, rfl, hfl⟩ := h1
  rw [jn_inl]
  dsimp only
  generalize hm : (if bEq (iAnd .i64 (iShr .i64 n 14) 1) 1 = true then _ else _ : Option ((Int × Int × Int × Int × Int × Int × Int × Int × Int × Int × Int × Int × Int × Int × (List Int) × Int) ⊕ (Int × Int × Int × Int × Int × (List Int) × Int × Int))) = m
  have h2 : ∃ fl c r mo he ro id, m = some (.inl (0, 0, 0, 0, 0, 0, 0, rp, fl, c, r, mo, he, ro, id, n)) ∧ id.length ≤ 176 ∧ Bytes id ∧ U64 mo ∧ U64 ro ∧ I64 fl := by
    rw [← hm]
    split
    · obtain ⟨l, g1, g2, g3⟩ := ID_ok (iShr .i64 n 17)
      rw [g1]
      exact ⟨_, _, _, _, _, _, _, rfl, by omega, g3, rangeU64_wrap _, rangeU64_wrap _, rangeI64_wrap _⟩
    · exact ⟨_, _, _, _, _, _, _, rfl, by simp, bytes_nil, by omega, by omega, hfl⟩
  clear hm
  obtain ⟨fl, c, r, mo, he, ro, id, rfl, g1, g2, g3, g4, g5⟩ := h2
  rw [jn_inl]
  dsimp only
  rw [bnd_eq]
  split
  · rw [reqP_pos (by rw [and_7 _ .i64 (by decide), conv_u64_id (by omega)]; omega), bnd_eq]
    exact ⟨_, rfl, rfl, g1, g2, g3, g4, rangeI64_wrap _⟩
  · rw [bnd_eq]
    split
    · exact ⟨_, rfl, rfl, g1, g2, g3, g4, g5⟩
    · rw [bnd_eq]
      split
      · exact ⟨_, rfl, rfl, g1, g2, g3, g4, g5⟩
      · rw [bnd_eq]
        split
        · exact ⟨_, rfl, rfl, g1, g2, by show U64 5; decide, g4, g5⟩
        · rw [bnd_eq]
          split
          · obtain ⟨l, k1, k2, k3⟩ := ID_ok n
            have hq : iRem .i64 (iAnd .i64 (iShr .i64 n 3) 255) 177 = (iShr .i64 n 3 % 256) % 177 := by
              have : iAnd .i64 (iShr .i64 n 3) 255 = iShr .i64 n 3 % 256 := and_mask .i64 _ 8 (by decide)
              rw [this, rem_nonneg _ (by omega)]
            rw [k1, Option.bind_some, hq, reqP_pos (by omega)]
            refine ⟨_, rfl, rfl, ?_, (k3.drop _).take _, g3, g4, g5⟩
            dsimp only
            rw [List.length_take, List.length_drop]
            omega
          · rw [bnd_eq]
            split
            · exact ⟨_, rfl, rfl, g1, g2, g3, g4, g5⟩
            · exact ⟨_, rfl, rfl, g1, g2, g3, g4, g5⟩

/-! ### Hashes -/
theorem toBytes_bytes (s : List UInt8) : Bytes (toBytes s) := fun x hx => by
  simp only [toBytes, List.mem_map] at hx
  obtain ⟨b, _, rfl⟩ := hx
  have := b.toNat_lt
  omega
theorem toBytes_len (s : List UInt8) : (toBytes s).length = s.length := by simp [toBytes]
theorem RPHash_eq (s : List UInt8) (h : s.length ≤ 1000000) : sh_authdata_RPHash s = some (hashS 9 (toBytes s)) := by
  unfold sh_authdata_RPHash
  rw [bnd_eq, Hash_eq _ (toBytes_bytes s) (by rw [toBytes_len]; omega), Option.bind_some]

theorem awake14 : sh_passkeylaw14_awake () = some true := by
  unfold sh_passkeylaw14_awake
  have e1 : sh_authdata_Encode ((1 : Int), ((1 : Int), ((2 : Int), ((0 : Int), ((0 : Int), (([] : List Int), ((0 : Int), (0 : Int)))))))) = some (encD (1, 1, 2, 0, 0, [], 0, 0)) := Encode14_eq _ (by simp)
  have e2 : encD (1, 1, 2, 0, 0, [], 0, 0) = ([0, 0, 0, 0, 0, 0, 0, 1, 1, 2, 0], 0) := by decide
  have e3 : sh_authdata_Validate ((0 : Int), ((0 : Int), ((17 : Int), ((0 : Int), ((0 : Int), (([] : List Int), ((0 : Int), (0 : Int)))))))) = some (valD (0, 0, 17, 0, 0, [], 0, 0)) := Validate14_eq _
  have e4 : valD (0, 0, 17, 0, 0, [], 0, 0) = 9 := by decide
  rw [e1, e2, Option.bind_some, if_pos (by decide), if_pos (by decide), RPHash_eq _ (by simp), Option.bind_some, Option.bind_some, ite_bEq, e3, e4, Option.bind_some]
  rfl
end Go.Vm
/- Authenticator data: decoding. -/
namespace Go.Vm

theorem word14_eq (b : List Int) (hb : Bytes b) (hl : 8 ≤ b.length) : sh_authdata_word b = some (beN b 8) := word10_eq b hb hl
theorem part_nat (l : List Int) (a b : Nat) : part l (a : Int) (b : Int) = (l.drop a).take (b - a) := by
  unfold part
  rw [Int.toNat_natCast, show ((b : Int) - (a : Int)).toNat = b - a by omega]
theorem words_eq (l : List Int) (hb : Bytes l) (n : Nat) (hn : 8 * n ≤ l.length) (hl : l.length ≤ 1000000) : sh_treekey_words (l, (n : Int)) = some ((List.range n).map fun i => beN (l.drop (8 * i)) 8) := by
  unfold sh_treekey_words
  dsimp only
  refine jn_count (fun i => ((List.range i).map fun i => beN (l.drop (8 * i)) 8, l, (n : Int), (i : Int))) n ((List.range n).map fun i => beN (l.drop (8 * i)) 8) rfl (fun i hi => ?_) (by rw [if_neg (by simp [bLt])]) rfl
  dsimp only
  have e1 : iMul .i64 8 (i : Int) = ((8 * i : Nat) : Int) := by rw [mul_i64 (by omega)]; omega
  have e2 : iAdd .i64 ((8 * i : Nat) : Int) 8 = ((8 * i + 8 : Nat) : Int) := by rw [add_i64 (by omega)]; omega
  rw [if_pos (bLt_true (by omega)), e1, e2, reqP_pos (by omega), part_nat, show 8 * i + 8 - 8 * i = 8 by omega]
  have h8 : ((l.drop (8 * i)).take 8).length = 8 := by rw [List.length_take, List.length_drop]; omega
  have hbd : Bytes (l.drop (8 * i)) := hb.drop _
  refine jn_count (fun t => ((List.range i).map fun i => beN (l.drop (8 * i)) 8, l, beN (l.drop (8 * i)) t, (n : Int), (i : Int), (l.drop (8 * i)).take 8, (((l.drop (8 * i)).take 8).length : Int), (t : Int))) 8
    ((List.range i).map fun i => beN (l.drop (8 * i)) 8, l, beN (l.drop (8 * i)) 8, (n : Int), (i : Int)) rfl (fun t ht => ?_) (by rw [h8, if_neg (by simp [bLt])]) ?_
  · dsimp only
    rw [if_pos (bLt_true (by omega)), atL_nat (List.getElem?_eq_getElem (by rw [h8]; exact ht)), bnd_eq, bnd_eq]
    have e : ((l.drop (8 * i)).take 8)[t]'(by rw [h8]; exact ht) = (l.drop (8 * i)).getD t 0 := by rw [List.getElem_take, getD_get (by rw [List.length_drop]; omega)]
    rw [e, be_step hbd ht, add_i64 (by omega)]
    rfl
  · dsimp only
    rw [bnd_eq, reqP_pos (by simp; omega), bnd_eq, bnd_eq, add_i64 (by omega), range_map_snoc]
    rfl

theorem atL_0 {α ρ : Type} {l : List α} {k : α → Option ρ} {a : α} (h : l[0]? = some a) : atL l 0 k = k a := atL_nat (i := 0) h
def decKeyS (b : List Int) : Int × Int × Int := if bNe (b.length : Int) 9 then (0, 0, 2) else if (!tallS (b.getD 0 0)) then (0, 0, 2) else (b.getD 0 0, beN (b.drop 1) 8, 0)
theorem bNe_false_iff {a b : Int} : ¬ bNe a b = true ↔ a = b := by simp [bNe]
theorem DecodeKey_eq (b : List Int) (hb : Bytes b) : sh_treekey_DecodeKey b = some (decKeyS b) := by
  unfold sh_treekey_DecodeKey decKeyS
  by_cases h : bNe (b.length : Int) 9 = true
  · rw [if_pos h, if_pos h, jn_inr]
  · have hl : b.length = 9 := by have := bNe_false_iff.1 h; omega
    have c : iConv .i64 (b.getD 0 0) = b.getD 0 0 := conv_i64 (by have := getD_byte hb 0; omega)
    rw [if_neg h, if_neg h, atL_0 (List.getElem?_eq_getElem (by omega)), ← getD_get (d := (0 : Int)) (by omega), c, tall_eq, Option.bind_some]
    by_cases h2 : (!tallS (b.getD 0 0)) = true
    · rw [if_pos h2, if_pos h2, jn_inr]
    · rw [if_neg h2, if_neg h2, jn_inl]
      dsimp only
      have hw := words_eq (b.drop 1) (hb.drop 1) 1 (by rw [List.length_drop]; omega) (by rw [List.length_drop]; omega)
      have hw' : sh_treekey_words (b.drop (1 : Int).toNat, 1) = some [beN (b.drop 1) 8] := by
        rw [show (1 : Int).toNat = 1 from rfl]
        exact hw
      rw [atL_0 (List.getElem?_eq_getElem (by omega)), ← getD_get (d := (0 : Int)) (by omega), c, reqP_pos (by omega), hw', Option.bind_some, reqP_pos (by simp)]
      rfl
/-! ### Data -/
abbrev ADE := Int × Int × Int × Int × Int × List Int × Int × Int × Int
def errD : ADE := (0, 0, 0, 0, 0, [], 0, 0, 2)
def okD (y : AD) (e : Int) : ADE := (y.1, y.2.1, y.2.2.1, y.2.2.2.1, y.2.2.2.2.1, y.2.2.2.2.2.1, y.2.2.2.2.2.2.1, y.2.2.2.2.2.2.2, e)
def finD (y : AD) : ADE := if bNe (valD y) 0 then errD else okD y 0
def data0 (b : List Int) : AD := (beN b 8, b.getD 8 0, b.getD 9 0, b.getD 10 0, 0, [], 0, 0)
def data1 (b : List Int) : AD := (beN b 8, b.getD 8 0, b.getD 9 0, b.getD 10 0, beN (b.drop 11) 8, (b.drop 19).take 176, b.getD 195 0, beN (b.drop 196) 8)
def attD (b : List Int) : Bool := bNe (iAnd .i64 (b.getD 8 0) 64) 0
def decD (b : List Int) : ADE :=
  if attD b then (if b.length = 204 then (if tallS (b.getD 195 0) then finD (data1 b) else errD) else errD) else if b.length = 11 then finD (data0 b) else errD
theorem drop_getD {α : Type} (l : List α) (n i : Nat) (d : α) : (l.drop n).getD i d = l.getD (n + i) d := by
  rw [List.getD_eq_getElem?_getD, List.getElem?_drop, ← List.getD_eq_getElem?_getD]

theorem CloneB_eq (l : List Int) (h : l.length ≤ 1000000) : sh_slices_Clone___byte_byte_ l = some l := reqP_pos (by omega) _
theorem valD_eta (y : AD) : sh_authdata_Validate (y.1, (y.2.1, (y.2.2.1, (y.2.2.2.1, (y.2.2.2.2.1, (y.2.2.2.2.2.1, (y.2.2.2.2.2.2.1, y.2.2.2.2.2.2.2))))))) = some (valD y) := Validate14_eq y

theorem Decode14_eq (b : List Int) (hb : Bytes b) (hl : b.length ≤ 1000000) : sh_authdata_Decode b = some (decD b) := by
  unfold sh_authdata_Decode decD
  by_cases h11 : b.length < 11
  · rw [if_pos (bLt_true (by omega))]
    split
    · rw [if_neg (by omega)]; rfl
    · rw [if_neg (by omega)]; rfl
  · have c : ∀ i, iConv .i64 (b.getD i 0) = b.getD i 0 := fun i => conv_i64 (by have := getD_byte hb i; omega)
    rw [if_neg (by rw [bLt_false (by omega)]; simp), word14_eq b hb (by omega), Option.bind_some, show (8 : Int) = ((8 : Nat) : Int) from rfl, show (9 : Int) = ((9 : Nat) : Int) from rfl, show (10 : Int) = ((10 : Nat) : Int) from rfl,
      atL_nat (List.getElem?_eq_getElem (by omega)), atL_nat (List.getElem?_eq_getElem (by omega)), atL_nat (List.getElem?_eq_getElem (by omega)), ← getD_get (d := (0 : Int)) (by omega), ← getD_get (d := (0 : Int)) (by omega), ← getD_get (d := (0 : Int)) (by omega), c, c, c, reqP_pos (by omega), show (11 : Int).toNat = 11 from rfl, show (184 : Int).toNat = 184 from rfl]
    have hd : (b.drop 11).length = b.length - 11 := List.length_drop
    by_cases ha : attD b = true
    · rw [if_pos ha, if_pos (show bNe (iAnd .i64 (b.getD 8 0) 64) 0 = true from ha)]
      by_cases h184 : (b.drop 11).length < 184
      · rw [if_pos (bLt_true (by omega)), jn_inr, if_neg (by omega)]
        rfl
      · have hp : part (b.drop 11) ((8 : Nat) : Int) 184 = (b.drop 19).take 176 := by
          have := part_nat (b.drop 11) 8 184
          rw [show ((184 : Nat) : Int) = 184 from rfl] at this
          rw [this, List.drop_drop]
        rw [if_neg (by rw [bLt_false (by omega)]; simp), word14_eq _ (hb.drop _) (by omega), Option.bind_some, reqP_pos (by omega), hp, CloneB_eq _ (by rw [List.length_take]; omega), Option.bind_some, reqP_pos (by omega), List.drop_drop, DecodeKey_eq _ (hb.drop _), Option.bind_some]
        have hk : (b.drop (11 + 184)).length = b.length - 195 := List.length_drop
        by_cases h204 : b.length = 204
        · rw [if_pos h204]
          have e0 : (b.drop (11 + 184)).getD 0 0 = b.getD 195 0 := drop_getD _ _ _ _
          by_cases ht : tallS (b.getD 195 0) = true
          · have hks : decKeyS (b.drop (11 + 184)) = (b.getD 195 0, beN (b.drop 196) 8, 0) := by
              unfold decKeyS
              rw [if_neg (by simp [bNe, hk, h204]), e0, ht, if_neg (by simp), List.drop_drop]
            rw [if_pos ht, hks, if_neg (by simp), jn_inl]
            dsimp only
            rw [if_neg (by simp [bGt])]
            have hv := valD_eta (data1 b)
            unfold finD
            show jn (Option.bind (sh_authdata_Validate (data1 b)) _) _ = _
            rw [show sh_authdata_Validate (data1 b) = some (valD (data1 b)) from hv, Option.bind_some]
            by_cases hz : bNe (valD (data1 b)) 0 = true
            · rw [if_pos hz, if_pos hz, jn_inr]
              rfl
            · rw [if_neg hz, if_neg hz, jn_inl]
              rfl
          · have hks : decKeyS (b.drop (11 + 184)) = (0, 0, 2) := by
              unfold decKeyS
              rw [if_neg (by simp [bNe, hk, h204]), e0, if_pos (by cases h : tallS (b.getD 195 0) with | true => exact absurd h ht | false => rfl)]
            rw [if_neg ht, hks, if_pos (by decide), jn_inr]
            rfl
        · have hks : decKeyS (b.drop (11 + 184)) = (0, 0, 2) := by
            unfold decKeyS
            rw [if_pos (bNe_true (by omega))]
          rw [if_neg h204, hks, if_pos (by decide), jn_inr]
          rfl
    · rw [if_neg ha, if_neg (show ¬ bNe (iAnd .i64 (b.getD 8 0) 64) 0 = true from ha), jn_inl]
      dsimp only
      by_cases hz : b.length = 11
      · rw [if_pos hz, if_neg (by simp [bGt, hz])]
        have hv := valD_eta (data0 b)
        unfold finD
        show jn (Option.bind (sh_authdata_Validate (data0 b)) _) _ = _
        rw [show sh_authdata_Validate (data0 b) = some (valD (data0 b)) from hv, Option.bind_some]
        by_cases hz : bNe (valD (data0 b)) 0 = true
        · rw [if_pos hz, if_pos hz, jn_inr]
          rfl
        · rw [if_neg hz, if_neg hz, jn_inl]
          rfl
      · rw [if_neg hz, if_pos (bGt_true (by omega)), jn_inr]
        rfl
end Go.Vm
/- Authenticator data: the laws of decoding. -/
namespace Go.Vm

theorem headD_bytes (x : AD) : Bytes (headD x) := by
  refine (wordB_bytes _).append fun z hz => ?_
  simp only [List.mem_cons, List.not_mem_nil, or_false] at hz
  rcases hz with rfl | rfl | rfl <;> rw [conv_u8] <;> omega
theorem encKeyS_bytes (k : Int × Int) : Bytes (encKeyS k).1 := by
  unfold encKeyS
  split
  · exact bytes_nil
  · intro z hz
    rcases List.mem_cons.1 hz with rfl | hz
    · rw [conv_u8]; omega
    · exact wordB_bytes _ z hz
theorem encD_bytes {x : AD} (h : Bytes x.2.2.2.2.2.1) : Bytes (encD x).1 := by
  unfold encD
  split
  · exact bytes_nil
  · dsimp only
    split
    · exact (((headD_bytes x).append (wordB_bytes _)).append h).append (encKeyS_bytes _)
    · exact headD_bytes x
theorem encD_len {x : AD} (h : x.2.2.2.2.2.1.length ≤ 176) : (encD x).1.length ≤ 204 := by
  unfold encD
  split
  · simp
  · dsimp only
    have := encKeyS_len (x.2.2.2.2.2.2.1, x.2.2.2.2.2.2.2)
    have := headD_len x
    have := wordB_len x.2.2.2.2.1
    split
    · simp only [List.length_append]
      omega
    · omega

theorem set_bytes {l : List Int} (h : Bytes l) (i : Nat) {x : Int} (hx : 0 ≤ x ∧ x ≤ 255) : Bytes (l.set i x) := fun z hz => by
  rcases List.mem_or_eq_of_mem_set hz with h1 | rfl
  · exact h z h1
  · exact hx
theorem xor_u8 (a b : Int) : 0 ≤ iXor .u8 a b ∧ iXor .u8 a b ≤ 255 := by
  unfold iXor
  rw [wrap_u8]
  omega

/-- One byte changed, if there is one. -/
theorem spoilt {ρ : Type} (c b : List Int) (at_ by_ : Int) (hc : Bytes c) (hl : c.length ≤ 204) (k : List Int × List Int → Option ρ) (r : ρ) (hk : ∀ c' : List Int, Bytes c' → c'.length ≤ 204 → k (c', b) = some r) :
    jn (α := ((List Int) × (List Int))) (ρ := ρ) (
      if (bGt (c.length : Int) (0 : Int)) then
        reqP ((c.length : Int) ≠ 0) <|
        reqP (0 ≤ (iRem .i64 (iAnd .i64 at_ (65535 : Int)) (c.length : Int)) ∧ (iRem .i64 (iAnd .i64 at_ (65535 : Int)) (c.length : Int)) < (c.length : Int)) <|
        reqP (0 ≤ (iRem .i64 (iAnd .i64 at_ (65535 : Int)) (c.length : Int)) ∧ (iRem .i64 (iAnd .i64 at_ (65535 : Int)) (c.length : Int)) < (c.length : Int)) <|
        bnd (c.set (iRem .i64 (iAnd .i64 at_ (65535 : Int)) (c.length : Int)).toNat (iXor .u8 (c.getD (iRem .i64 (iAnd .i64 at_ (65535 : Int)) (c.length : Int)).toNat (0 : Int)) by_)) fun b4 =>
        some (.inl (b4, b))
      else
        some (.inl (c, b))
    ) k = some r := by
  by_cases h0 : (c.length : Int) > 0
  · have ha : iAnd .i64 at_ 65535 = at_ % 65536 := and_mask .i64 _ 16 (by decide)
    have hq : iRem .i64 (iAnd .i64 at_ 65535) (c.length : Int) = (at_ % 65536) % (c.length : Int) := by rw [ha, rem_nonneg _ (by omega)]
    have h1 : 0 ≤ (at_ % 65536) % (c.length : Int) := Int.emod_nonneg _ (by omega)
    have h2 : (at_ % 65536) % (c.length : Int) < (c.length : Int) := Int.emod_lt_of_pos _ (by omega)
    rw [if_pos (bGt_true h0), reqP_pos (by omega), hq, reqP_pos ⟨h1, h2⟩, reqP_pos ⟨h1, h2⟩, bnd_eq, jn_inl]
    exact hk _ (set_bytes hc _ (xor_u8 _ _)) (by rw [List.length_set]; exact hl)
  · rw [if_neg (by rw [bGt_false (by omega)]; simp), jn_inl]
    exact hk _ hc hl

/-! ### What is valid -/
/-! ### There and back -/
/-! ### Back and there -/
theorem beN_div {b : List Int} (hb : Bytes b) (t : Nat) : ∀ s, beN b (t + s) / 2 ^ (8 * s) = beN b t
  | 0 => by simp
  | s + 1 => by
    have hx := getD_byte hb (t + s)
    have e : (2 : Int) ^ (8 * (s + 1)) = 256 * 2 ^ (8 * s) := by
      rw [show 8 * (s + 1) = 8 + 8 * s by omega, Int.pow_add]
      rfl
    rw [← Nat.add_assoc, beN, e, ← Int.ediv_ediv_of_nonneg (by omega)]
    have : (beN b (t + s) * 256 + b.getD (t + s) 0) / 256 = beN b (t + s) := by omega
    rw [this, beN_div hb t s]
theorem wordB_beN {b : List Int} (hb : Bytes b) (hl : 8 ≤ b.length) : wordB (beN b 8) = b.take 8 := by
  apply List.ext_getElem?
  intro i
  by_cases hi : i < 8
  · have e1 : (wordB (beN b 8))[i]? = some (iConv .u8 (beN b 8 / 2 ^ (56 - 8 * i))) := by
      rw [wordB, List.getElem?_map, List.getElem?_range hi]
      rfl
    rw [e1, List.getElem?_take, if_pos hi, List.getElem?_eq_getElem (by omega), ← getD_get (d := (0 : Int)) (by omega), conv_u8]
    have hd := beN_div hb (i + 1) (7 - i)
    rw [show i + 1 + (7 - i) = 8 by omega, show 8 * (7 - i) = 56 - 8 * i by omega] at hd
    have hx := getD_byte hb i
    rw [hd, beN]
    congr 1
    omega
  · rw [List.getElem?_eq_none (by rw [wordB_len]; omega), List.getElem?_eq_none (by rw [List.length_take]; omega)]
theorem take_drop_3 {b : List Int} (h : 11 ≤ b.length) : b.take 8 ++ [b.getD 8 0, b.getD 9 0, b.getD 10 0] = b.take 11 := by
  rw [getD_get (by omega), getD_get (by omega), getD_get (by omega)]
  have e1 : b.take 9 = b.take 8 ++ [b[8]] := List.take_succ_eq_append_getElem (by omega)
  have e2 : b.take 10 = b.take 9 ++ [b[9]] := List.take_succ_eq_append_getElem (by omega)
  have e3 : b.take 11 = b.take 10 ++ [b[10]] := List.take_succ_eq_append_getElem (by omega)
  rw [e3, e2, e1, List.append_assoc, List.append_assoc]
  rfl
theorem enc_dec14 {b : List Int} (hb : Bytes b) (h : (decD b).2.2.2.2.2.2.2.2 = 0) : ∃ y, decD b = okD y 0 ∧ y.2.2.2.2.2.1.length ≤ 1000000 ∧ encD y = (b, 0) := by
  have hc : ∀ i, iConv .u8 (b.getD i 0) = b.getD i 0 := fun i => by have := getD_byte hb i; exact conv_u8_id (by omega)
  have bad : ¬ ((errD : ADE).2.2.2.2.2.2.2.2 = 0) := by decide
  have head : ∀ y : AD, 11 ≤ b.length → y.1 = beN b 8 → y.2.1 = b.getD 8 0 → y.2.2.1 = b.getD 9 0 → y.2.2.2.1 = b.getD 10 0 → headD y = b.take 11 := by
    intro y hl h1 h2 h3 h4
    unfold headD
    rw [h1, h2, h3, h4, hc, hc, hc, wordB_beN hb (by omega), take_drop_3 hl]
  have fin : ∀ y : AD, (finD y).2.2.2.2.2.2.2.2 = 0 → finD y = okD y 0 ∧ ¬ bNe (valD y) 0 = true := by
    intro y hy
    unfold finD at hy ⊢
    by_cases hz : bNe (valD y) 0 = true
    · rw [if_pos hz] at hy
      exact absurd hy bad
    · rw [if_neg hz]
      exact ⟨rfl, hz⟩
  by_cases ha : attD b = true
  · by_cases h204 : b.length = 204
    · by_cases ht : tallS (b.getD 195 0) = true
      · have e : decD b = finD (data1 b) := by
          unfold decD
          rw [if_pos ha, if_pos h204, if_pos ht]
        rw [e] at h ⊢
        obtain ⟨f1, f2⟩ := fin _ h
        refine ⟨data1 b, f1, by show ((b.drop 19).take 176).length ≤ _; rw [List.length_take]; omega, ?_⟩
        have hh := head (data1 b) (by omega) rfl rfl rfl rfl
        have hat : bNe (iAnd .i64 (data1 b).2.1 64) 0 = true := ha
        unfold encD
        rw [if_neg f2, if_pos hat, hh]
        have hk : (encKeyS ((data1 b).2.2.2.2.2.2.1, (data1 b).2.2.2.2.2.2.2)).1 = b.drop 195 := by
          show (encKeyS (b.getD 195 0, beN (b.drop 196) 8)).1 = _
          unfold encKeyS
          have hw : wordB (beN (b.drop 196) 8) = b.drop 196 := by
            rw [wordB_beN (hb.drop _) (by rw [List.length_drop]; omega), List.take_of_length_le (by rw [List.length_drop]; omega)]
          rw [ht, if_neg (by simp)]
          show iConv .u8 (b.getD 195 0) :: wordB (beN (b.drop 196) 8) = _
          rw [hc, hw, getD_get (by omega)]
          exact (List.drop_eq_getElem_cons (by omega)).symm
        rw [hk]
        show (b.take 11 ++ wordB (beN (b.drop 11) 8) ++ (b.drop 19).take 176 ++ b.drop 195, (0 : Int)) = (b, 0)
        rw [wordB_beN (hb.drop _) (by rw [List.length_drop]; omega)]
        congr 1
        have t1 : b.take 11 ++ (b.drop 11).take 8 = b.take 19 := by
          rw [show 19 = 11 + 8 from rfl, List.take_add]
        have t2 : b.take 19 ++ (b.drop 19).take 176 = b.take 195 := by
          rw [show 195 = 19 + 176 from rfl, List.take_add]
        rw [t1, t2, List.take_append_drop]
      · have e : decD b = errD := by
          unfold decD
          rw [if_pos ha, if_pos h204, if_neg ht]
        rw [e] at h
        exact absurd h bad
    · have e : decD b = errD := by
        unfold decD
        rw [if_pos ha, if_neg h204]
      rw [e] at h
      exact absurd h bad
  · by_cases h11 : b.length = 11
    · have e : decD b = finD (data0 b) := by
        unfold decD
        rw [if_neg ha, if_pos h11]
      rw [e] at h ⊢
      obtain ⟨f1, f2⟩ := fin _ h
      refine ⟨data0 b, f1, by show ([] : List Int).length ≤ _; simp, ?_⟩
      have hh := head (data0 b) (by omega) rfl rfl rfl rfl
      have hat : ¬ bNe (iAnd .i64 (data0 b).2.1 64) 0 = true := ha
      unfold encD
      rw [if_neg f2, if_neg hat, hh, List.take_of_length_le (by omega)]
    · have e : decD b = errD := by
        unfold decD
        rw [if_neg ha, if_neg h11]
      rw [e] at h
      exact absurd h bad

theorem AuthdataUnique_true (x : List Int × Int × Int × Int) (h : Goods [.list (.int .u8), .int .i64, .int .i64, .int .u8] x) : sh_passkeylaw14_AuthdataUnique x = some true := by
  obtain ⟨b, n, at_, by_⟩ := x
  obtain ⟨g1, _⟩ := goods_all h
  have hb : Bytes b := fun z hz => good_u8.1 (g1.2 z hz)
  unfold sh_passkeylaw14_AuthdataUnique
  dsimp only
  by_cases hl : (b.length : Int) > 400
  · rw [if_pos (bGt_true hl), awake14, Option.bind_some]
  · obtain ⟨y, hy, _, hy2, hy3, _⟩ := made14_ok n 5
    rw [if_neg (by rw [bGt_false (by omega)]; simp), hy, Option.bind_some]
    have a2 := refEncode14_eq y (by omega)
    rw [show ((y.1, (y.2.1, (y.2.2.1, (y.2.2.2.1, (y.2.2.2.2.1, (y.2.2.2.2.2.1, (y.2.2.2.2.2.2.1, y.2.2.2.2.2.2.2))))))) : AD) = y from rfl, a2, Option.bind_some]
    refine spoilt (encD y).1 b at_ by_ (encD_bytes hy3) (encD_len hy2) _ _ fun c hcb hcl => ?_
    dsimp only
    refine jn_count (fun i => (c, b, (i : Int))) 2 () rfl (fun i hi => ?_) (by rw [if_neg (by simp [bLt])]) (by rw [awake14, Option.bind_some])
    dsimp only
    rw [if_pos (bLt_true (by omega)), bnd_eq, reqP_pos (by simp; omega), Int.toNat_natCast]
    have hg : ∃ z, ((([] : List (List Int)) ++ [b, c]).getD i []) = z ∧ Bytes z ∧ z.length ≤ 1000000 := by
      match i, hi with
      | 0, _ => exact ⟨b, rfl, hb, by omega⟩
      | 1, _ => exact ⟨c, rfl, hcb, by omega⟩
    obtain ⟨z, hz, hzb, hzl⟩ := hg
    have hz' : (((List.replicate 2 ([] : List Int)).set 0 b).set 1 c).getD i [] = z := hz
    rw [hz', Decode14_eq z hzb hzl, Option.bind_some]
    have step : (jn (α := ((List Int) × (List Int) × Int)) (ρ := (((List Int) × (List Int) × Int) ⊕ ((Unit) ⊕ Bool))) (some (.inl (c, b, (i : Int)))) fun j7 => bnd (iAdd .i64 j7.2.2 (1 : Int)) fun b11 => some (.inl (j7.1, j7.2.1, b11))) = some (.inl (c, b, ((i + 1 : Nat) : Int))) := by
      rw [jn_inl, bnd_eq]
      dsimp only
      rw [add_i64 (by omega)]
      rfl
    by_cases hok : bNe (decD z).2.2.2.2.2.2.2.2 0 = true
    · rw [if_pos hok]
      exact step
    · rw [if_neg hok]
      obtain ⟨w, w1, w2, w3⟩ := enc_dec14 hzb (bNe_false_iff.1 hok)
      rw [w1]
      unfold okD
      dsimp only
      rw [show ((w.1, (w.2.1, (w.2.2.1, (w.2.2.2.1, (w.2.2.2.2.1, (w.2.2.2.2.2.1, (w.2.2.2.2.2.2.1, w.2.2.2.2.2.2.2))))))) : AD) = w from rfl, Encode14_eq w w2, Option.bind_some, w3]
      dsimp only
      rw [if_neg (by simp), sEq_self, if_neg (by simp)]
      exact step
end Go.Vm
