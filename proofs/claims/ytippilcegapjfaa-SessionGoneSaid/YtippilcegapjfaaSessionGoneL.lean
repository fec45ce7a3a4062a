/- Plain laws about what the functions compute. -/
import Derived.Test.YtippilcegapjfaaSessionGoneP
/- One-time signatures: the digits of a word. -/
namespace Go.Vm

end Go.Vm
/- The hash: program and reference compute the same. -/
namespace Go.Vm

def rotl (x : Int) (k : Nat) : Int := iOr .u64 (iShl .u64 x (k : Int)) (iShr .u64 x ((64 - k : Nat) : Int))
/-- The state of the hash. -/
structure Sip where
  a : Int
  b : Int
  c : Int
  d : Int
def Sip.t (v : Sip) : Int × Int × Int × Int := (v.a, v.b, v.c, v.d)
def Sip.round (v : Sip) : Sip :=
  let a1 := iAdd .u64 v.a v.b
  let b1 := iXor .u64 (rotl v.b 13) a1
  let a2 := rotl a1 32
  let c1 := iAdd .u64 v.c v.d
  let d1 := iXor .u64 (rotl v.d 16) c1
  let a3 := iAdd .u64 a2 d1
  let d2 := iXor .u64 (rotl d1 21) a3
  let c2 := iAdd .u64 c1 b1
  let b2 := iXor .u64 (rotl b1 17) c2
  ⟨a3, b2, rotl c2 32, d2⟩
def Sip.rounds (v : Sip) : Nat → Sip
  | 0 => v
  | n + 1 => (v.rounds n).round
def Sip.word (v : Sip) (m : Int) : Sip :=
  let v := (⟨v.a, v.b, v.c, iXor .u64 v.d m⟩ : Sip).round.round
  ⟨iXor .u64 v.a m, v.b, v.c, v.d⟩
def Sip.last (v : Sip) : Int :=
  let v := (⟨v.a, v.b, iXor .u64 v.c 255, v.d⟩ : Sip).round.round.round.round
  iXor .u64 (iXor .u64 (iXor .u64 v.a v.b) v.c) v.d

theorem RotateLeft_eq (x : Int) (k : Nat) (h : k < 64) : sh_math_bits_RotateLeft64 (x, (k : Int)) = some (rotl x k) := by
  unfold sh_math_bits_RotateLeft64
  have e : iAnd .u64 (iConv .u64 (k : Int)) 63 = (k : Int) := by
    rw [conv_u64_id (by omega), and_63 _ _ (by decide)]
    omega
  have e2 : iSub .u64 64 (k : Int) = ((64 - k : Nat) : Int) := by
    unfold iSub
    rw [wrap_u64_id (by omega)]
    omega
  simp only [bnd_eq, e, e2]
  rw [reqP_pos (by omega), reqP_pos (by omega)]
  rfl
theorem round_eq (v : Sip) (n : Nat) (hn : n < 100) : sh___passkey_digest_state__round (v.a, v.b, v.c, v.d, (n : Int)) = some (v.rounds n).t := by
  unfold sh___passkey_digest_state__round
  refine jn_count (fun i => ((v.rounds i).a, (v.rounds i).b, (v.rounds i).c, (v.rounds i).d, (n : Int), (i : Int))) n ((v.rounds n).a, (v.rounds n).b, (v.rounds n).c, (v.rounds n).d) rfl (fun i hi => ?_) (by rw [if_neg (by simp [bLt])]) rfl
  simp only [bLt_true (show (i : Int) < (n : Int) by omega), if_true, bnd_eq]
  have r (x : Int) (k : Nat) (h : k < 64) := RotateLeft_eq x k h
  rw [show (13 : Int) = ((13 : Nat) : Int) from rfl, show (32 : Int) = ((32 : Nat) : Int) from rfl, show (16 : Int) = ((16 : Nat) : Int) from rfl, show (21 : Int) = ((21 : Nat) : Int) from rfl, show (17 : Int) = ((17 : Nat) : Int) from rfl]
  simp only [r _ 13 (by omega), r _ 32 (by omega), r _ 16 (by omega), r _ 21 (by omega), r _ 17 (by omega), Option.bind_some]
  rw [add_i64 (by omega)]
  rfl

theorem word_eq (v : Sip) (m : Int) : sh___passkey_digest_state__word (v.a, v.b, v.c, v.d, m) = some (v.word m).t := by
  unfold sh___passkey_digest_state__word
  simp only [bnd_eq]
  have := round_eq ⟨v.a, v.b, v.c, iXor .u64 v.d m⟩ 2 (by omega)
  rw [show ((2 : Nat) : Int) = 2 from rfl] at this
  rw [this]
  rfl

section
variable (a b c d x : Int)
@[simp] theorem rd4_0 : arrRd (0 : Int) (⟨[a, b, c, d], rfl⟩ : Arr 4 Int) 0 = a := rfl
@[simp] theorem rd4_1 : arrRd (0 : Int) (⟨[a, b, c, d], rfl⟩ : Arr 4 Int) 1 = b := rfl
@[simp] theorem rd4_2 : arrRd (0 : Int) (⟨[a, b, c, d], rfl⟩ : Arr 4 Int) 2 = c := rfl
@[simp] theorem rd4_3 : arrRd (0 : Int) (⟨[a, b, c, d], rfl⟩ : Arr 4 Int) 3 = d := rfl
@[simp] theorem wr4_0 : arrWr (⟨[a, b, c, d], rfl⟩ : Arr 4 Int) 0 x = ⟨[x, b, c, d], rfl⟩ := rfl
@[simp] theorem wr4_1 : arrWr (⟨[a, b, c, d], rfl⟩ : Arr 4 Int) 1 x = ⟨[a, x, c, d], rfl⟩ := rfl
@[simp] theorem wr4_2 : arrWr (⟨[a, b, c, d], rfl⟩ : Arr 4 Int) 2 x = ⟨[a, b, x, d], rfl⟩ := rfl
@[simp] theorem wr4_3 : arrWr (⟨[a, b, c, d], rfl⟩ : Arr 4 Int) 3 x = ⟨[a, b, c, x], rfl⟩ := rfl
end
section
variable {ρ : Type} (y : Option ρ)
@[simp] theorem req4_0 : reqP ((0 : Int) ≤ 0 ∧ (0 : Int) < 4) y = y := reqP_pos (by decide) y
@[simp] theorem req4_1 : reqP ((0 : Int) ≤ 1 ∧ (1 : Int) < 4) y = y := reqP_pos (by decide) y
@[simp] theorem req4_2 : reqP ((0 : Int) ≤ 2 ∧ (2 : Int) < 4) y = y := reqP_pos (by decide) y
@[simp] theorem req4_3 : reqP ((0 : Int) ≤ 3 ∧ (3 : Int) < 4) y = y := reqP_pos (by decide) y
end
/-! ### Words of bytes, the least first -/
def le : List Int → Int
  | [] => 0
  | x :: l => x + 256 * le l
def Bytes (l : List Int) : Prop := ∀ x ∈ l, 0 ≤ x ∧ x ≤ 255
theorem le_range : ∀ {l : List Int}, Bytes l → 0 ≤ le l ∧ le l < 256 ^ l.length
  | [], _ => by simp [le]
  | x :: l, h => by
    have h1 := h x (.head _)
    have h2 := le_range (l := l) fun y hy => h y (.tail _ hy)
    simp only [le, List.length_cons, Int.pow_succ]
    omega
theorem le_snoc : ∀ (l : List Int) (x : Int), le (l ++ [x]) = le l + 256 ^ l.length * x
  | [], x => by simp [le]
  | y :: l, x => by
    simp only [List.cons_append, le, le_snoc l x, List.length_cons, Int.pow_succ]
    rw [Int.mul_add, ← Int.mul_assoc, Int.mul_comm 256 (256 ^ l.length)]
    omega

theorem or_add (a b : Int) (j : Nat) (h0 : 0 ≤ a) (hb : 0 ≤ b) (hab : a * 2 ^ j ≤ 18446744073709551615) (hlt : b < 2 ^ j) (hj : j < 64) : iOr .u64 (a * 2 ^ j) b = a * 2 ^ j + b := by
  obtain ⟨a, rfl⟩ := Int.eq_ofNat_of_zero_le h0
  obtain ⟨b, rfl⟩ := Int.eq_ofNat_of_zero_le hb
  have e1 : (a : Int) * 2 ^ j = ((a * 2 ^ j : Nat) : Int) := by simp
  have hlt' : b < 2 ^ j := by
    have := pow_cast j
    omega
  have hb64 : b < 2 ^ 64 := Nat.lt_of_lt_of_le hlt' (Nat.pow_le_pow_right (by omega) (by omega))
  rw [e1] at hab ⊢
  unfold iOr
  rw [BitVec.ofInt_natCast, BitVec.ofInt_natCast, BitVec.toNat_or, BitVec.toNat_ofNat, BitVec.toNat_ofNat, Nat.mod_eq_of_lt (by simp only [IntKind.bits]; omega), Nat.mod_eq_of_lt (by simpa only [IntKind.bits] using hb64)]
  have h := Nat.shiftLeft_add_eq_or_of_lt hlt' a
  rw [Nat.shiftLeft_eq] at h
  rw [← h]
  rw [wrap_u64]
  have h64 : a * 2 ^ j + b < 18446744073709551616 := by
    have h1 : 2 ^ 64 = 2 ^ (64 - j) * 2 ^ j := by rw [← Nat.pow_add]; congr 1; omega
    have h2 : a < 2 ^ (64 - j) := by
      apply Nat.lt_of_mul_lt_mul_right (a := 2 ^ j)
      omega
    have h3 : (a + 1) * 2 ^ j ≤ 2 ^ (64 - j) * 2 ^ j := Nat.mul_le_mul_right _ h2
    rw [Nat.add_mul, Nat.one_mul] at h3
    omega
  omega
theorem or_comm (k : IntKind) (a b : Int) : iOr k a b = iOr k b a := by
  unfold iOr
  rw [BitVec.or_comm]
theorem shl_small {a : Int} {j : Nat} (hj : j ≤ 64) (h0 : 0 ≤ a) (h : a * 2 ^ j ≤ 18446744073709551615) : iShl .u64 a (j : Int) = a * 2 ^ j := by
  unfold iShl
  rw [Int.toNat_natCast, Nat.min_eq_left (by simpa [IntKind.bits] using hj)]
  exact wrap_u64_id ⟨Int.mul_nonneg h0 (Int.le_of_lt (Int.pow_pos (by omega))), h⟩

theorem pow256 (i : Nat) : (256 : Int) ^ i = 2 ^ (8 * i) := by
  rw [Int.pow_mul]
  rfl
theorem byte_shl {x : Int} {i : Nat} (hi : i < 8) (h0 : 0 ≤ x) (h : x ≤ 255) : x * 2 ^ (8 * i) ≤ 18446744073709551615 := by
  have h1 : (2 : Int) ^ (8 * i) ≤ 2 ^ 56 := pow_le_int (by omega)
  have h2 : x * 2 ^ (8 * i) ≤ 255 * 2 ^ (8 * i) := Int.mul_le_mul_of_nonneg_right h (Int.le_of_lt (Int.pow_pos (by omega)))
  omega

theorem little_eq (b : List Int) (hb : Bytes b) (hl : b.length ≤ 8) : sh_digest_little b = some (le b) := by
  unfold sh_digest_little
  refine jn_count (fun i => (le (b.take i), b, (b.length : Int), (i : Int))) b.length (le b) rfl (fun i hi => ?_) (by rw [if_neg (by simp [bLt])]; simp) rfl
  have hx := hb b[i] (List.getElem_mem hi)
  have hbt : Bytes (b.take i) := fun y hy => hb y (List.mem_of_mem_take hy)
  have h1 := le_range hbt
  rw [List.length_take, Nat.min_eq_left (by omega), pow256] at h1
  simp only [bLt_true (show (i : Int) < (b.length : Int) by omega), if_true, bnd_eq]
  rw [atL_nat (List.getElem?_eq_getElem hi), mul_i64 (by omega), reqP_pos (by omega), add_i64 (by omega)]
  have e : (8 : Int) * (i : Int) = ((8 * i : Nat) : Int) := by omega
  have hs := byte_shl (i := i) (by omega) hx.1 hx.2
  rw [e, conv_u64_id (by omega), shl_small (by omega) hx.1 hs, or_comm, or_add _ _ _ hx.1 h1.1 hs h1.2 (by omega)]
  have e2 : le (b.take (i + 1)) = b[i] * 2 ^ (8 * i) + le (b.take i) := by
    rw [List.take_succ_eq_append_getElem hi, le_snoc, List.length_take, Nat.min_eq_left (by omega), pow256, Int.mul_comm, Int.add_comm]
  rw [← e2]
  rfl
end Go.Vm
/- The hash of bytes: program and reference compute the same. -/
namespace Go.Vm

/-- The word at a place: of eight bytes, or the last one. -/
def wordAt (b : List Int) (i : Nat) : Int := if i < b.length / 8 then le ((b.drop (8 * i)).take 8) else le (b.drop (8 * (b.length / 8))) + 2 ^ 56 * ((b.length : Int) % 256)
def sipV (k0 k1 : Int) (b : List Int) : Nat → Sip
  | 0 => ⟨iXor .u64 k0 8317987319222330741, iXor .u64 k1 7237128888997146477, iXor .u64 k0 7816392313619706465, iXor .u64 k1 8387220255154660723⟩
  | n + 1 => (sipV k0 k1 b n).word (wordAt b n)
/-- The hash. -/
def sip (k0 k1 : Int) (b : List Int) : Int := (sipV k0 k1 b (b.length / 8 + 1)).last

theorem Bytes.drop {b : List Int} (h : Bytes b) (n : Nat) : Bytes (b.drop n) := fun y hy => h y (List.mem_of_mem_drop hy)
theorem Bytes.take {b : List Int} (h : Bytes b) (n : Nat) : Bytes (b.take n) := fun y hy => h y (List.mem_of_mem_take hy)
theorem Bytes.append {a b : List Int} (h : Bytes a) (k : Bytes b) : Bytes (a ++ b) := fun y hy => (List.mem_append.1 hy).elim (h y) (k y)

theorem Sum_eq (k0 k1 : Int) (b : List Int) (hb : Bytes b) (hl : b.length ≤ 9223372036854775807) : sh_digest_Sum (k0, k1, b) = some (sip k0 k1 b) := by
  unfold sh_digest_Sum
  simp only [bnd_eq]
  refine jn_count (fun i => ((sipV k0 k1 b i).a, (sipV k0 k1 b i).b, (sipV k0 k1 b i).c, (sipV k0 k1 b i).d, b.drop (8 * i), iShl .u64 (iConv .u64 (b.length : Int)) 56)) (b.length / 8)
    ((sipV k0 k1 b (b.length / 8)).a, (sipV k0 k1 b (b.length / 8)).b, (sipV k0 k1 b (b.length / 8)).c, (sipV k0 k1 b (b.length / 8)).d, b.drop (8 * (b.length / 8)), iShl .u64 (iConv .u64 (b.length : Int)) 56) rfl (fun i hi => ?_) (by rw [if_neg (by simp [bGe]; omega)]) ?_
  · have h8 : 8 ≤ (b.drop (8 * i)).length := by rw [List.length_drop]; omega
    simp only [bGe_true (show ((b.drop (8 * i)).length : Int) ≥ 8 by omega), if_true]
    rw [reqP_pos (by omega), show ((8 : Int).toNat) = 8 from rfl, little_eq _ ((hb.drop _).take _) (by rw [List.length_take]; omega), Option.bind_some, word_eq, Option.bind_some, reqP_pos (by omega)]
    have e : wordAt b i = le ((b.drop (8 * i)).take 8) := if_pos hi
    simp only [Sip.t, sipV, e, List.drop_drop]
    rfl
  · have hr : (b.drop (8 * (b.length / 8))).length = b.length % 8 := by rw [List.length_drop]; omega
    have h1 := le_range (hb.drop (8 * (b.length / 8)))
    have h2 : (256 : Int) ^ (b.drop (8 * (b.length / 8))).length ≤ 2 ^ 56 := by
      rw [hr, pow256]
      exact pow_le_int (by omega)
    have e : iOr .u64 (iShl .u64 (iConv .u64 (b.length : Int)) 56) (le (b.drop (8 * (b.length / 8)))) = wordAt b (b.length / 8) := by
      have e1 : iShl .u64 (iConv .u64 (b.length : Int)) 56 = ((b.length : Int) % 256) * 2 ^ 56 := by
        rw [conv_u64_id (by omega)]
        have e0 : (2 : Int) ^ (min 56 64) = 72057594037927936 := by decide
        show IntKind.wrap .u64 ((b.length : Int) * 2 ^ (min 56 64)) = _
        rw [wrap_u64, e0]
        omega
      rw [e1, or_add _ _ _ (by omega) h1.1 (by omega) (by omega) (by omega), wordAt, if_neg (by omega), Int.mul_comm (2 ^ 56), Int.add_comm]
    simp only [little_eq _ (hb.drop (8 * (b.length / 8))) (by rw [hr]; omega), Option.bind_some, e, word_eq, Sip.t]
    have := round_eq ⟨((sipV k0 k1 b (b.length / 8)).word (wordAt b (b.length / 8))).a, ((sipV k0 k1 b (b.length / 8)).word (wordAt b (b.length / 8))).b, iXor .u64 ((sipV k0 k1 b (b.length / 8)).word (wordAt b (b.length / 8))).c 255, ((sipV k0 k1 b (b.length / 8)).word (wordAt b (b.length / 8))).d⟩ 4 (by omega)
    rw [show ((4 : Nat) : Int) = 4 from rfl] at this
    simp only [this, Option.bind_some, Sip.t]
    rfl

end Go.Vm
/- One-time signatures: words, chains, signatures. -/
namespace Go.Vm

/-! ### Words -/
def wordB (w : Int) : List Int := (List.range 8).map fun i => iConv .u8 (w / 2 ^ (56 - 8 * i))
def wordsB (l : List Int) : List Int := l.flatMap wordB
theorem wordB_len (w : Int) : (wordB w).length = 8 := by simp [wordB]
theorem wordsB_len : ∀ l : List Int, (wordsB l).length = 8 * l.length
  | [] => rfl
  | x :: l => by
    have := wordsB_len l
    simp only [wordsB, List.flatMap_cons, List.length_append, List.length_cons, wordB_len] at *
    omega
theorem wordB_bytes (w : Int) : Bytes (wordB w) := fun x hx => by
  simp only [wordB, List.mem_map] at hx
  obtain ⟨i, _, rfl⟩ := hx
  rw [conv_u8]
  omega
theorem wordsB_bytes (l : List Int) : Bytes (wordsB l) := fun x hx => by
  obtain ⟨w, _, h⟩ := List.mem_flatMap.1 hx
  exact wordB_bytes w x h
theorem wordsB_append (l m : List Int) : wordsB (l ++ m) = wordsB l ++ wordsB m := List.flatMap_append
theorem wordsB_one (x : Int) : wordsB [x] = wordB x := by simp [wordsB]
theorem wordsB_take_succ {l : List Int} {i : Nat} (h : i < l.length) : wordsB (l.take (i + 1)) = wordsB (l.take i) ++ wordB l[i] := by
  rw [List.take_succ_eq_append_getElem h, wordsB_append, wordsB_one]
theorem wordB_part (w : Int) (j : Nat) : (List.range (j + 1)).map (fun i => iConv .u8 (w / 2 ^ (56 - 8 * i))) = (List.range j).map (fun i => iConv .u8 (w / 2 ^ (56 - 8 * i))) ++ [iConv .u8 (w / 2 ^ (56 - 8 * j))] := range_map_snoc _ _

theorem Words_eq (l : List Int) (hl : l.length * 8 ≤ 140737488355328) : sh_digest_Words l = some (wordsB l) := by
  unfold sh_digest_Words
  refine jn_count (fun i => (wordsB (l.take i), l, (l.length : Int), (i : Int))) l.length (wordsB l) rfl (fun i hi => ?_) (by rw [if_neg (by simp [bLt])]; simp) rfl
  simp only [bLt_true (show (i : Int) < (l.length : Int) by omega), if_true]
  rw [atL_nat (List.getElem?_eq_getElem hi)]
  refine jn_count (fun j => (wordsB (l.take i) ++ (List.range j).map (fun q => iConv .u8 (l[i] / 2 ^ (56 - 8 * q))), l[i], l, (l.length : Int), (i : Int), (j : Int))) 8 (wordsB (l.take (i + 1)), l, (l.length : Int), (i : Int)) (by simp) (fun j hj => ?_) (by rw [if_neg (by simp [bLt]), wordsB_take_succ hi]; rfl) (by simp only [bnd_eq]; rw [add_i64 (by omega)]; rfl)
  simp only [bLt_true (show (j : Int) < 8 by omega), if_true, bnd_eq]
  have e : iSub .i64 56 (iMul .i64 8 (j : Int)) = ((56 - 8 * j : Nat) : Int) := by
    rw [mul_i64 (by omega), sub_i64 (by omega)]
    omega
  have hlen : (wordsB (l.take i)).length = 8 * i := by rw [wordsB_len, List.length_take]; omega
  rw [e, reqP_pos (by omega), shr_eq _ _ _ (by simp [IntKind.bits]; omega)]
  rw [reqP_pos (by simp [hlen]; omega), add_i64 (by omega), wordB_part, List.append_assoc]
  rfl

/-! ### Hash, Mac -/
def macS (key dom : Int) (b : List Int) : Int := sip key (iAdd .u64 1 (iConv .u64 dom)) b
theorem Mac_eq (key dom : Int) {b : List Int} (hb : Bytes b) (hl : b.length ≤ 140737488355328) : sh_digest_Mac (key, dom, b) = some (macS key dom b) := by
  unfold sh_digest_Mac
  simp only [Sum_eq _ _ b hb (by omega), Option.bind_some]
  rfl
/-! ### Chains -/
end Go.Vm
/- Leases: program and reference compute the same. -/
namespace Go.Vm

/-! ### Loops that look for something -/
section
variable {σ α : Type}
def nextG (o : Option α) (s : σ) : σ ⊕ α := match o with
  | some a => .inr a
  | none => .inl s
/-- The first answer of the rounds from i on. -/
def firstG (g : Nat → Option α) (e : α) (i : Nat) : Nat → α
  | 0 => e
  | n + 1 => match g i with
    | some a => a
    | none => firstG g e (i + 1) n
theorem loopLim_first {f : σ → Option (σ ⊕ α)} (st : Nat → σ) (g : Nat → Option α) (e : α) (N : Nat) (h : ∀ i, i < N → f (st i) = some (nextG (g i) (st (i + 1)))) (he : f (st N) = some (.inr e)) : ∀ n i, i + n = N → loopLim f (st i) = some (firstG g e i n)
  | 0, i, hi => by
    have : i = N := by omega
    subst this
    exact loopLim_end he
  | n + 1, i, hi => by
    have h1 := h i (by omega)
    simp only [firstG]
    cases hg : g i with
    | some a =>
      rw [hg] at h1
      exact loopLim_end h1
    | none =>
      rw [hg] at h1
      rw [loopLim_next h1]
      exact loopLim_first st g e N h he n (i + 1) (by omega)
theorem loopLim_first0 {f : σ → Option (σ ⊕ α)} {s : σ} (st : Nat → σ) (g : Nat → Option α) (e : α) (N : Nat) (h0 : s = st 0) (h : ∀ i, i < N → f (st i) = some (nextG (g i) (st (i + 1)))) (he : f (st N) = some (.inr e)) : loopLim f s = some (firstG g e 0 N) := by
  rw [h0]
  exact loopLim_first st g e N h he N 0 (by omega)
theorem jn_first {ρ : Type} {f : σ → Option (σ ⊕ (α ⊕ ρ))} {s : σ} {k : α → Option ρ} {R : Option ρ} (st : Nat → σ) (g : Nat → Option (α ⊕ ρ)) (e : α ⊕ ρ) (N : Nat) (h0 : s = st 0) (h : ∀ i, i < N → f (st i) = some (nextG (g i) (st (i + 1)))) (he : f (st N) = some (.inr e)) (hk : jn (some (firstG g e 0 N)) k = R) : jn (loopLim f s) k = R := by
  rw [loopLim_first0 st g e N h0 h he]
  exact hk
theorem firstG_spec (g : Nat → Option α) (e : α) : ∀ n i, (∃ j a, i ≤ j ∧ j < i + n ∧ g j = some a ∧ firstG g e i n = a ∧ ∀ k, i ≤ k → k < j → g k = none) ∨ (firstG g e i n = e ∧ ∀ k, i ≤ k → k < i + n → g k = none)
  | 0, i => .inr ⟨rfl, fun k h1 h2 => by omega⟩
  | n + 1, i => by
    cases hg : g i with
    | some a => exact .inl ⟨i, a, Nat.le_refl i, by omega, hg, by simp only [firstG, hg], fun k h1 h2 => by omega⟩
    | none =>
      rcases firstG_spec g e n (i + 1) with ⟨j, a, h1, h2, h3, h4, h5⟩ | ⟨h1, h2⟩
      · refine .inl ⟨j, a, by omega, by omega, h3, by simp only [firstG, hg]; exact h4, fun k k1 k2 => ?_⟩
        by_cases e1 : k = i
        · subst e1; exact hg
        · exact h5 k (by omega) k2
      · refine .inr ⟨by simp only [firstG, hg]; exact h1, fun k k1 k2 => ?_⟩
        by_cases e1 : k = i
        · subst e1; exact hg
        · exact h2 k (by omega) (by omega)
end

/-! ### Validity, the index of a tag -/
def unS {β : Type} (d : β) : Unit ⊕ β → β
  | .inl _ => d
  | .inr r => r
theorem getD_get {α : Type} {l : List α} {i : Nat} {d : α} (h : i < l.length) : l.getD i d = l[i] := by
  rw [List.getD_eq_getElem?_getD, List.getElem?_eq_getElem h, Option.getD_some]
theorem jn_unS {β : Type} (d : β) (m : Unit ⊕ β) : jn (some m) (fun _ => some d) = some (unS d m) := by
  cases m <;> rfl
/-! ### The law's own list -/
end Go.Vm
/- Leases: grants, leaves, parts, codes. -/
namespace Go.Vm

/-! ### Grant -/
/-! ### A valid list, and a tag's place -/
/-! ### Take, Part, Drop -/
end Go.Vm
/- Leases: parts; the laws. -/
namespace Go.Vm

/-! ### The laws -/
end Go.Vm
/- Leases: their bytes. -/
namespace Go.Vm

theorem sEq_self (s : List UInt8) : sEq s s = true := by simp [sEq]
end Go.Vm
/- Authenticator data: program and reference compute the same. -/
namespace Go.Vm

/-! ### Encoding -/
end Go.Vm
/- Authenticator data: the law's own data; hashes; the first laws. -/
namespace Go.Vm

/-! ### Hashes -/
theorem toBytes_bytes (s : List UInt8) : Bytes (toBytes s) := fun x hx => by
  simp only [toBytes, List.mem_map] at hx
  obtain ⟨b, _, rfl⟩ := hx
  have := b.toNat_lt
  omega
theorem toBytes_len (s : List UInt8) : (toBytes s).length = s.length := by simp [toBytes]
end Go.Vm
/- Sessions: what the functions compute; the token. -/
namespace Go.Vm

/-- Number, account, identifier, model, begin, end. -/
abbrev Se := Int × List UInt8 × List Int × Int × Int × Int
/-- Secret, count, open sessions. -/
abbrev Ss := Int × Int × List Se

def bytesS (sec : Int) (x : Se) : List Int := wordsB [iConv .u64 x.1, macS sec 18 (wordsB [iConv .u64 x.1, iConv .u64 x.2.2.2.2.1] ++ toBytes x.2.1)]
theorem Bytes_eq (s : Ss) (x : Se) (h : x.2.1.length ≤ 1000000) : sh_session_Bytes (s, x) = some (bytesS s.1 x) := by
  unfold sh_session_Bytes
  dsimp only
  have hb : Bytes (wordsB [iConv .u64 x.1, iConv .u64 x.2.2.2.2.1] ++ toBytes x.2.1) := (wordsB_bytes _).append (toBytes_bytes _)
  have hl : (wordsB [iConv .u64 x.1, iConv .u64 x.2.2.2.2.1]).length = 16 := by rw [wordsB_len]; rfl
  rw [bnd_eq, Words_eq _ (by simp), Option.bind_some]
  have e : wordsB (((List.replicate 2 (0 : Int)).set 0 (iConv .u64 x.1)).set 1 (iConv .u64 x.2.2.2.2.1)) = wordsB [iConv .u64 x.1, iConv .u64 x.2.2.2.2.1] := rfl
  rw [e, reqP_pos (by rw [hl, toBytes_len]; omega), bnd_eq, Mac_eq _ _ hb (by rw [List.length_append, hl, toBytes_len]; omega), Option.bind_some, bnd_eq, Words_eq _ (by simp), Option.bind_some]
  rfl
def badS (now : Int) : Bool := if bLt now 0 then true else bGt now 1099511627776
theorem bad_eq (now : Int) : sh_session_bad now = some (badS now) := by
  unfold sh_session_bad badS
  split <;> rfl

/-- The sessions for which p is false. -/
def withoutS (p : Se → Bool) (s : Ss) : Ss := (s.1, s.2.1, s.2.2.filter fun x => !p x)
theorem filter_take_succ {p : Se → Bool} {l : List Se} {i : Nat} (h : i < l.length) : (l.take (i + 1)).filter p = (l.take i).filter p ++ if p l[i] then [l[i]] else [] := by
  rw [List.take_succ_eq_append_getElem h, List.filter_append]
  congr 1
  simp only [List.filter_cons, List.filter_nil]
theorem filter_take_len (p : Se → Bool) (l : List Se) (i : Nat) : ((l.take i).filter p).length ≤ i := Nat.le_trans (List.length_filter_le _ _) (by rw [List.length_take]; omega)

def expP (now : Int) (x : Se) : Bool := if (!badS now) then bGt now x.2.2.2.2.2 else false
theorem Expire1_eq (x : Se) (now : Int) : sh_session_Expire_1 (x, now) = some (expP now x) := by
  unfold sh_session_Expire_1 expP
  dsimp only
  rw [bad_eq, Option.bind_some]
  split <;> rfl
theorem without1_eq (s : Ss) (now : Int) (hl : s.2.2.length ≤ 1000000) : sh_session_without (s, now) = some (withoutS (expP now) s) := by
  unfold sh_session_without
  dsimp only
  refine jn_count (fun i => ((0 : Int), (0 : Int), s.1, s.2.1, (s.2.2.take i).filter (fun x => !expP now x), now, s.2.2, (s.2.2.length : Int), (i : Int))) s.2.2.length ((0 : Int), (0 : Int), s.1, s.2.1, s.2.2.filter (fun x => !expP now x)) rfl (fun i hi => ?_) (by rw [if_neg (by simp [bLt])]; simp) rfl
  dsimp only
  rw [if_pos (bLt_true (by omega)), atL_nat (List.getElem?_eq_getElem hi)]
  have hf := filter_take_len (fun x => !expP now x) s.2.2 i
  have hq : (((s.2.2.take i).filter fun x => !expP now x).length + 1) * 72 ≤ 140737488355328 := by omega
  rw [show ((s.2.2[i].1, (s.2.2[i].2.1, (s.2.2[i].2.2.1, (s.2.2[i].2.2.2.1, (s.2.2[i].2.2.2.2.1, s.2.2[i].2.2.2.2.2))))) : Se) = s.2.2[i] from rfl, Expire1_eq, Option.bind_some, filter_take_succ hi]
  by_cases hp : (!expP now s.2.2[i]) = true
  · rw [if_pos hp, if_pos hp, bnd_eq]
    refine (reqP_pos hq _).trans ?_
    rw [bnd_eq, bnd_eq, add_i64 (by omega)]
    rfl
  · rw [if_neg hp, if_neg hp, bnd_eq, add_i64 (by omega), List.append_nil]
    rfl
theorem Expire_eq (s : Ss) (now : Int) (hl : s.2.2.length ≤ 1000000) : sh_session_Expire (s, now) = some (withoutS (expP now) s) := by
  unfold sh_session_Expire
  dsimp only
  rw [show ((s.1, (s.2.1, s.2.2)) : Ss) = s from rfl, without1_eq s now hl, Option.bind_some]

def closeP (n : Int) (x : Se) : Bool := bEq x.1 n
theorem without2_eq (s : Ss) (n : Int) (hl : s.2.2.length ≤ 1000000) : sh_session_without_2 (s, n) = some (withoutS (closeP n) s) := by
  unfold sh_session_without_2
  dsimp only
  refine jn_count (fun i => ((0 : Int), (0 : Int), s.1, s.2.1, (s.2.2.take i).filter (fun x => !closeP n x), n, s.2.2, (s.2.2.length : Int), (i : Int))) s.2.2.length ((0 : Int), (0 : Int), s.1, s.2.1, s.2.2.filter (fun x => !closeP n x)) rfl (fun i hi => ?_) (by rw [if_neg (by simp [bLt])]; simp) rfl
  dsimp only
  rw [if_pos (bLt_true (by omega)), atL_nat (List.getElem?_eq_getElem hi)]
  have hf := filter_take_len (fun x => !closeP n x) s.2.2 i
  have hq : (((s.2.2.take i).filter fun x => !closeP n x).length + 1) * 72 ≤ 140737488355328 := by omega
  have h1 : ∀ x : Se, sh_session_Close_1 (x, n) = some (closeP n x) := fun x => rfl
  rw [show ((s.2.2[i].1, (s.2.2[i].2.1, (s.2.2[i].2.2.1, (s.2.2[i].2.2.2.1, (s.2.2[i].2.2.2.2.1, s.2.2[i].2.2.2.2.2))))) : Se) = s.2.2[i] from rfl, h1, Option.bind_some, filter_take_succ hi]
  by_cases hp : (!closeP n s.2.2[i]) = true
  · rw [if_pos hp, if_pos hp, bnd_eq]
    refine (reqP_pos hq _).trans ?_
    rw [bnd_eq, bnd_eq, add_i64 (by omega)]
    rfl
  · rw [if_neg hp, if_neg hp, bnd_eq, add_i64 (by omega), List.append_nil]
    rfl
def modelP (m : Int) (x : Se) : Bool := if bNe m 0 then bEq x.2.2.2.1 m else false
theorem without3_eq (s : Ss) (m : Int) (hl : s.2.2.length ≤ 1000000) : sh_session_without_3 (s, m) = some (withoutS (modelP m) s) := by
  unfold sh_session_without_3
  dsimp only
  refine jn_count (fun i => ((0 : Int), (0 : Int), s.1, s.2.1, (s.2.2.take i).filter (fun x => !modelP m x), m, s.2.2, (s.2.2.length : Int), (i : Int))) s.2.2.length ((0 : Int), (0 : Int), s.1, s.2.1, s.2.2.filter (fun x => !modelP m x)) rfl (fun i hi => ?_) (by rw [if_neg (by simp [bLt])]; simp) rfl
  dsimp only
  rw [if_pos (bLt_true (by omega)), atL_nat (List.getElem?_eq_getElem hi)]
  have hf := filter_take_len (fun x => !modelP m x) s.2.2 i
  have hq : (((s.2.2.take i).filter fun x => !modelP m x).length + 1) * 72 ≤ 140737488355328 := by omega
  have h1 : ∀ x : Se, sh_session_RevokeModel_1 (x, m) = some (modelP m x) := fun x => by
    unfold sh_session_RevokeModel_1 modelP
    dsimp only
    split <;> rfl
  rw [show ((s.2.2[i].1, (s.2.2[i].2.1, (s.2.2[i].2.2.1, (s.2.2[i].2.2.2.1, (s.2.2[i].2.2.2.2.1, s.2.2[i].2.2.2.2.2))))) : Se) = s.2.2[i] from rfl, h1, Option.bind_some, filter_take_succ hi]
  by_cases hp : (!modelP m s.2.2[i]) = true
  · rw [if_pos hp, if_pos hp, bnd_eq]
    refine (reqP_pos hq _).trans ?_
    rw [bnd_eq, bnd_eq, add_i64 (by omega)]
    rfl
  · rw [if_neg hp, if_neg hp, bnd_eq, add_i64 (by omega), List.append_nil]
    rfl
theorem RevokeModel_eq (s : Ss) (m : Int) (hl : s.2.2.length ≤ 1000000) : sh_session_RevokeModel (s, m) = some (withoutS (modelP m) s) := by
  unfold sh_session_RevokeModel
  dsimp only
  rw [show ((s.1, (s.2.1, s.2.2)) : Ss) = s from rfl, without3_eq s m hl, Option.bind_some]

/-! ### Open -/
def nextS (s : Ss) (now : Int) : List Se := if 32 ≤ (withoutS (expP now) s).2.2.length then (withoutS (expP now) s).2.2.drop 1 else (withoutS (expP now) s).2.2
def newS (s : Ss) (acc : List UInt8) (id : List Int) (model now dur : Int) : Se := (s.2.1, acc, id, model, now, iMin (iAdd .i64 now dur) 1099511627776)
theorem CloneB34_eq (l : List Int) (h : l.length ≤ 1000000) : sh_slices_Clone___byte_byte_ l = some l := reqP_pos (by omega) _
theorem Open_eq (s : Ss) (acc : List UInt8) (id : List Int) (model now dur : Int) (hl : s.2.2.length ≤ 100000) (ha : acc.length ≤ 1000000) (hid : id.length ≤ 1000000) (hn : badS now = false) (hd : 1 ≤ dur ∧ dur ≤ 1099511627776) :
    sh_session_Open (s, acc, id, model, now, dur) = some (s.1, iAdd .i64 s.2.1 1, nextS s now ++ [newS s acc id model now dur], bytesS s.1 (newS s acc id model now dur), 0) := by
  unfold sh_session_Open
  dsimp only
  rw [bad_eq, Option.bind_some, hn, if_neg (by simp), if_neg (by rw [bLt_false (by omega)]; simp), if_neg (by rw [bGt_false (by omega)]; simp), jn_inl]
  dsimp only
  rw [show ((s.1, (s.2.1, s.2.2)) : Ss) = s from rfl, Expire_eq s now (by omega), Option.bind_some]
  have hlen : (withoutS (expP now) s).2.2.length ≤ 100000 := Nat.le_trans (List.length_filter_le _ _) hl
  have hnx : (nextS s now).length ≤ 100000 := by
    unfold nextS
    split
    · rw [List.length_drop]; omega
    · exact hlen
  have fin : ∀ (a b : Nat), ((withoutS (expP now) s).2.2.drop a).take b = nextS s now →
      (Option.bind (sh_slices_Clone___byte_byte_ id) fun r4 =>
  bnd (iAdd .i64 (withoutS (expP now) s).2.1 (1 : Int)) fun b5 =>
  bnd ((List.replicate 1 ((0 : Int), (([] : List UInt8), (([] : List Int), ((0 : Int), ((0 : Int), (0 : Int))))))).set 0 (s.2.1, (acc, (r4, (model, (now, (iMin (iAdd .i64 now dur) (1099511627776 : Int)))))))) fun b6 =>
  reqP (((((withoutS (expP now) s).2.2.drop a).take b).length + b6.length) * 72 ≤ 140737488355328) <|
  bnd ((((withoutS (expP now) s).2.2.drop a).take b) ++ b6) fun b7 =>
  Option.bind (sh_session_Bytes (((withoutS (expP now) s).1, (b5, b7)), (s.2.1, (acc, (r4, (model, (now, (iMin (iAdd .i64 now dur) (1099511627776 : Int))))))))) fun r8 =>
  some ((withoutS (expP now) s).1, b5, b7, r8, (0 : Int))) = some (s.1, iAdd .i64 s.2.1 1, nextS s now ++ [newS s acc id model now dur], bytesS s.1 (newS s acc id model now dur), 0) := by
    intro a b hab
    rw [CloneB34_eq id hid, Option.bind_some, bnd_eq, bnd_eq, hab, reqP_pos (by simp; omega), bnd_eq, Bytes_eq _ _ ha, Option.bind_some]
    rfl
  by_cases h32 : 32 ≤ (withoutS (expP now) s).2.2.length
  · rw [if_pos (bGe_true (by omega)), reqP_pos (by omega), jn_inl]
    refine fin _ _ ?_
    unfold nextS
    rw [if_pos h32, List.take_of_length_le (by rw [List.length_drop]; simp)]
    rfl
  · rw [if_neg (by rw [bGe_false (by omega)]; simp), jn_inl]
    refine fin _ _ ?_
    unfold nextS
    rw [if_neg h32, List.drop_zero, List.take_of_length_le (Nat.le_refl _)]

/-! ### Check, Close -/
def sz : Se := (0, [], [], 0, 0, 0)
def isP (sec : Int) (token : List Int) (now : Int) (x : Se) : Bool := if bLe now x.2.2.2.2.2 then sEq (ofBytes (bytesS sec x)) (ofBytes token) else false
def findG34 (s : Ss) (token : List Int) (now : Int) (i : Nat) : Option (Unit ⊕ Int) := if isP s.1 token now (s.2.2.getD i sz) then some (.inr (i : Int)) else none
def find34 (s : Ss) (token : List Int) (now : Int) : Int := unS (-1) (firstG (findG34 s token now) (.inl ()) 0 s.2.2.length)
theorem find34_eq (s : Ss) (token : List Int) (now : Int) (hl : s.2.2.length ≤ 1000000) (ha : ∀ x ∈ s.2.2, x.2.1.length ≤ 1000000) : sh_session_find (s, token, now) = some (find34 s token now) := by
  unfold sh_session_find
  dsimp only
  have : sh_slices_IndexFunc___passkey_api_Session_passkey_api_Session_ (s.2.2, now, s, token) = some (find34 s token now) := by
    unfold sh_slices_IndexFunc___passkey_api_Session_passkey_api_Session_
    dsimp only
    refine jn_first (fun i => (s.2.2, now, s, token, (s.2.2.length : Int), (i : Int))) (findG34 s token now) (.inl ()) s.2.2.length rfl (fun i hi => ?_) (by simp [bLt]) (jn_unS _ _)
    dsimp only
    rw [if_pos (bLt_true (by omega)), atL_nat (List.getElem?_eq_getElem hi)]
    have hx := ha _ (List.getElem_mem hi)
    have h1 : sh_session_find_1 (s.2.2[i], now, s, token) = some (isP s.1 token now s.2.2[i]) := by
      unfold sh_session_find_1 isP
      dsimp only
      rw [show ((s.1, (s.2.1, s.2.2)) : Ss) = s from rfl, show ((s.2.2[i].1, (s.2.2[i].2.1, (s.2.2[i].2.2.1, (s.2.2[i].2.2.2.1, (s.2.2[i].2.2.2.2.1, s.2.2[i].2.2.2.2.2))))) : Se) = s.2.2[i] from rfl, Bytes_eq s s.2.2[i] hx, Option.bind_some]
      split <;> rfl
    rw [show ((s.2.2[i].1, (s.2.2[i].2.1, (s.2.2[i].2.2.1, (s.2.2[i].2.2.2.1, (s.2.2[i].2.2.2.2.1, s.2.2[i].2.2.2.2.2))))) : Se) = s.2.2[i] from rfl, h1, Option.bind_some, bnd_eq, add_i64 (by omega)]
    unfold findG34
    rw [getD_get hi]
    split <;> rfl
  rw [show ((s.1, (s.2.1, s.2.2)) : Ss) = s from rfl, this, Option.bind_some]
def checkS (s : Ss) (token : List Int) (now : Int) : Int × List UInt8 × List Int × Int × Int × Int × Int :=
  if bLt (find34 s token now) 0 then (0, [], [], 0, 0, 0, 11) else
    let x := s.2.2.getD (find34 s token now).toNat sz
    (x.1, x.2.1, x.2.2.1, x.2.2.2.1, x.2.2.2.2.1, x.2.2.2.2.2, 0)
theorem find34_spec (s : Ss) (token : List Int) (now : Int) : (∃ i : Nat, i < s.2.2.length ∧ find34 s token now = (i : Int) ∧ isP s.1 token now (s.2.2.getD i sz) = true ∧ ∀ k, k < i → isP s.1 token now (s.2.2.getD k sz) = false) ∨ (find34 s token now = -1 ∧ ∀ k, k < s.2.2.length → isP s.1 token now (s.2.2.getD k sz) = false) := by
  have ng : ∀ k, findG34 s token now k = none → isP s.1 token now (s.2.2.getD k sz) = false := by
    intro k hk
    unfold findG34 at hk
    split at hk
    · cases hk
    · rename_i h; simpa using h
  unfold find34
  rcases firstG_spec (findG34 s token now) (.inl ()) s.2.2.length 0 with ⟨j, a, h1, h2, h3, h4, h5⟩ | ⟨h1, h2⟩
  · left
    unfold findG34 at h3
    split at h3
    · rename_i hp
      cases h3
      exact ⟨j, by omega, by rw [h4]; rfl, hp, fun k hk => ng k (h5 k (by omega) hk)⟩
    · cases h3
  · right
    exact ⟨by rw [h1]; rfl, fun k hk => ng k (h2 k (by omega) (by omega))⟩
theorem Check_eq (s : Ss) (token : List Int) (now : Int) (hl : s.2.2.length ≤ 1000000) (ha : ∀ x ∈ s.2.2, x.2.1.length ≤ 1000000 ∧ x.2.2.1.length ≤ 1000000) (hn : badS now = false) : sh_session_Check (s, token, now) = some (checkS s token now) := by
  unfold sh_session_Check checkS
  dsimp only
  rw [bad_eq, Option.bind_some, hn, if_neg (by simp), show ((s.1, (s.2.1, s.2.2)) : Ss) = s from rfl, find34_eq s token now hl (fun x hx => (ha x hx).1), Option.bind_some]
  rcases find34_spec s token now with ⟨i, h1, h2, _⟩ | ⟨h1, _⟩
  · rw [h2, if_neg (by rw [bLt_false (by omega)]; simp), if_neg (by rw [bLt_false (by omega)]; simp), atL_nat (List.getElem?_eq_getElem h1), CloneB34_eq _ (ha _ (List.getElem_mem h1)).2, Option.bind_some, Int.toNat_natCast, getD_get h1]
  · rw [h1, if_pos (by decide), if_pos (by decide)]
end Go.Vm
/- Sessions: tokens; the awake example; SessionBytes. -/
namespace Go.Vm

theorem words_two (a b : Int) : wordsB [a, b] = wordB a ++ wordB b := by
  simp only [wordsB, List.flatMap_cons, List.flatMap_nil, List.append_nil]
theorem bytesS_eq (sec : Int) (x : Se) : ∃ m, bytesS sec x = wordB (iConv .u64 x.1) ++ wordB m := ⟨_, words_two _ _⟩
theorem bytesS_len (sec : Int) (x : Se) : (bytesS sec x).length = 16 := by
  obtain ⟨m, h⟩ := bytesS_eq sec x
  rw [h, List.length_append, wordB_len, wordB_len]
theorem tok7 (sec : Int) (x : Se) (h : 0 ≤ x.1 ∧ x.1 < 256) : ((ofBytes (bytesS sec x)).getD 7 0).toNat = x.1.toNat := by
  obtain ⟨m, hm⟩ := bytesS_eq sec x
  rw [hm]
  have e : (ofBytes (wordB (iConv .u64 x.1) ++ wordB m)).getD 7 0 = UInt8.ofNat (iConv .u8 (iConv .u64 x.1 / 2 ^ 0)).toNat := rfl
  rw [e, conv_u64_id (by omega), Int.pow_zero, Int.ediv_one, conv_u8_id (by omega), UInt8.toNat_ofNat']
  omega
theorem tok_inj {sec sec' : Int} {x y : Se} (hx : 0 ≤ x.1 ∧ x.1 < 256) (hy : 0 ≤ y.1 ∧ y.1 < 256) (h : sEq (ofBytes (bytesS sec x)) (ofBytes (bytesS sec' y)) = true) : x.1 = y.1 := by
  have h : ofBytes (bytesS sec x) = ofBytes (bytesS sec' y) := by simpa [sEq] using h
  have a := tok7 sec x hx
  have b := tok7 sec' y hy
  rw [h] at a
  omega
theorem isP_num {sec now : Int} {x y : Se} (hx : 0 ≤ x.1 ∧ x.1 < 256) (hy : 0 ≤ y.1 ∧ y.1 < 256) (h : isP sec (bytesS sec x) now y = true) : y.1 = x.1 := by
  unfold isP at h
  split at h
  · exact tok_inj hy hx h
  · cases h
theorem isP_self {sec now : Int} {x : Se} (h : bLe now x.2.2.2.2.2 = true) : isP sec (bytesS sec x) now x = true := by
  unfold isP
  rw [if_pos h, sEq_self]
theorem isP_late {sec now : Int} {tok : List Int} {x : Se} (h : bLe now x.2.2.2.2.2 = false) : isP sec tok now x = false := by
  unfold isP
  rw [if_neg (by rw [h]; simp)]

/-- What a check answers. -/
theorem check_spec (s : Ss) (token : List Int) (now : Int) :
    (∃ i, ∃ h : i < s.2.2.length, isP s.1 token now s.2.2[i] = true ∧ find34 s token now = (i : Int) ∧ checkS s token now = (s.2.2[i].1, s.2.2[i].2.1, s.2.2[i].2.2.1, s.2.2[i].2.2.2.1, s.2.2[i].2.2.2.2.1, s.2.2[i].2.2.2.2.2, 0))
    ∨ ((∀ x ∈ s.2.2, isP s.1 token now x = false) ∧ find34 s token now = -1 ∧ checkS s token now = (0, [], [], 0, 0, 0, 11)) := by
  rcases find34_spec s token now with ⟨i, h1, h2, h3, _⟩ | ⟨h1, h2⟩
  · left
    refine ⟨i, h1, by rw [getD_get h1] at h3; exact h3, h2, ?_⟩
    unfold checkS
    rw [h2, if_neg (by rw [bLt_false (by omega)]; simp), Int.toNat_natCast, getD_get h1]
  · right
    refine ⟨fun x hx => ?_, h1, ?_⟩
    · obtain ⟨k, hk, rfl⟩ := List.getElem_of_mem hx
      have := h2 k hk
      rwa [getD_get hk] at this
    · unfold checkS
      rw [h1, if_pos (by decide)]
theorem check_one {sec c now : Int} {tok : List Int} {x : Se} (h : isP sec tok now x = true) : checkS (sec, c, [x]) tok now = (x.1, x.2.1, x.2.2.1, x.2.2.2.1, x.2.2.2.2.1, x.2.2.2.2.2, 0) := by
  rcases check_spec (sec, c, [x]) tok now with ⟨i, h1, h2, h3, h4⟩ | ⟨h1, _⟩
  · have : i = 0 := by have : i < 1 := h1; omega
    subst this
    exact h4
  · rw [h1 x (by simp)] at h; cases h
theorem check_none {s : Ss} {now : Int} {tok : List Int} (h : ∀ x ∈ s.2.2, isP s.1 tok now x = false) : checkS s tok now = (0, [], [], 0, 0, 0, 11) := by
  rcases check_spec s tok now with ⟨i, h1, h2, h3, h4⟩ | ⟨_, _, h2⟩
  · rw [h _ (List.getElem_mem h1)] at h2; cases h2
  · exact h2

def closeS (s : Ss) (token : List Int) (now : Int) : Ss × Int :=
  if bLt (find34 s token now) 0 then (s, 11) else
    (withoutS (closeP (s.2.2.getD (find34 s token now).toNat sz).1) (withoutS (expP now) s), 0)
theorem Close_eq (s : Ss) (token : List Int) (now : Int) (hl : s.2.2.length ≤ 1000000) (ha : ∀ x ∈ s.2.2, x.2.1.length ≤ 1000000) (hn : badS now = false) :
    sh_session_Close (s, token, now) = some ((closeS s token now).1.1, (closeS s token now).1.2.1, (closeS s token now).1.2.2, (closeS s token now).2) := by
  unfold sh_session_Close closeS
  dsimp only
  rw [bad_eq, Option.bind_some, hn, if_neg (by simp), show ((s.1, (s.2.1, s.2.2)) : Ss) = s from rfl, find34_eq s token now hl ha, Option.bind_some]
  rcases find34_spec s token now with ⟨i, h1, h2, _⟩ | ⟨h1, _⟩
  · rw [h2, if_neg (by rw [bLt_false (by omega)]; simp), if_neg (by rw [bLt_false (by omega)]; simp), atL_nat (List.getElem?_eq_getElem h1), Expire_eq s now hl, Option.bind_some, Int.toNat_natCast, getD_get h1]
    rw [show (((withoutS (expP now) s).1, ((withoutS (expP now) s).2.1, (withoutS (expP now) s).2.2)) : Ss) = withoutS (expP now) s from rfl, without2_eq _ _ (Nat.le_trans (List.length_filter_le _ _) hl), Option.bind_some]
  · rw [h1, if_pos (by decide), if_pos (by decide)]

def x0 : Se := (0, [97, 108, 105, 99, 101], [1], 3, 10, 15)
theorem bad_ok {n : Int} (h : 0 ≤ n ∧ n ≤ 1099511627776) : badS n = false := by
  unfold badS
  rw [if_neg (by rw [bLt_false (by omega)]; simp), bGt_false (by omega)]
theorem awake_true : sh_passkeylaw34_awake () = some true := by
  unfold sh_passkeylaw34_awake
  have hN : sh_session_New 7 = some (7, 0, []) := rfl
  have hO : sh_session_Open (((7 : Int), ((0 : Int), ([] : List Se))), ([97, 108, 105, 99, 101] : List UInt8), (List.replicate 1 (0 : Int)).set 0 1, 3, 10, 5) = some (7, 1, [x0], bytesS 7 x0, 0) := by
    have h := Open_eq ((7 : Int), ((0 : Int), ([] : List Se))) [97, 108, 105, 99, 101] [1] 3 10 5 (by simp) (by simp) (by simp) (bad_ok (by omega)) (by omega)
    have e : newS ((7 : Int), ((0 : Int), ([] : List Se))) [97, 108, 105, 99, 101] [1] 3 10 5 = x0 := by
      unfold newS x0
      rw [show iMin (iAdd .i64 10 5) 1099511627776 = 15 from by decide]
    have n : nextS ((7 : Int), ((0 : Int), ([] : List Se))) 10 = [] := rfl
    rw [e, n] at h
    rw [show iAdd .i64 ((7 : Int), ((0 : Int), ([] : List Se))).2.1 1 = 1 from by decide] at h
    exact h
  have hk : ∀ s : Ss, ∀ tok now, s.2.2.length ≤ 1 → (∀ x ∈ s.2.2, x = x0) → badS now = false → sh_session_Check ((s.1, (s.2.1, s.2.2)), tok, now) = some (checkS s tok now) := by
    intro s tok now hl hx hn
    exact Check_eq s tok now (by omega) (fun x h => by rw [hx x h]; unfold x0; decide) hn
  rw [hN, Option.bind_some, bnd_eq, hO, Option.bind_some]
  have t15 : checkS (7, 1, [x0]) (bytesS 7 x0) 15 = (0, [97, 108, 105, 99, 101], [1], 3, 10, 15, 0) := check_one (isP_self (by decide))
  have t16 : checkS (7, 1, [x0]) (bytesS 7 x0) 16 = (0, [], [], 0, 0, 0, 11) := check_none (fun x hx => by
    have : x = x0 := by simpa using hx
    subst this
    exact isP_late (by decide))
  have tn : ∀ c, checkS (7, c, []) (bytesS 7 x0) 12 = (0, [], [], 0, 0, 0, 11) := fun c => check_none (fun x hx => by cases hx)
  have hc : closeS (7, 1, [x0]) (bytesS 7 x0) 12 = ((7, 1, []), 0) := by
    have hp : isP 7 (bytesS 7 x0) 12 x0 = true := isP_self (by decide)
    rcases check_spec (7, 1, [x0]) (bytesS 7 x0) 12 with ⟨i, h1, h2, h3, h4⟩ | ⟨h1, _⟩
    · have : i = 0 := by have : i < 1 := h1; omega
      subst this
      unfold closeS
      rw [h3]
      rfl
    · rw [h1 x0 (by simp)] at hp; cases hp
  have hl := bytesS_len 7 x0
  generalize bytesS 7 x0 = tok at *
  rw [hk (7, 1, [x0]) tok 15 (by simp) (by simp) (bad_ok (by omega)), t15, Option.bind_some]
  rw [hk (7, 1, [x0]) tok 16 (by simp) (by simp) (bad_ok (by omega)), t16, Option.bind_some]
  have hC := Close_eq (7, 1, [x0]) tok 12 (by simp) (by simp [x0]) (bad_ok (by omega))
  rw [hc] at hC
  rw [show (((7 : Int), ((1 : Int), [x0])) : Ss) = (7, 1, [x0]) from rfl]
  rw [hC, Option.bind_some]
  rw [hk (7, 1, []) tok 12 (by simp) (by simp) (bad_ok (by omega)), tn, Option.bind_some]
  rw [RevokeModel_eq (7, 1, [x0]) 3 (by simp), Option.bind_some]
  rw [show withoutS (modelP 3) (7, 1, [x0]) = (7, 1, []) from rfl]
  rw [hk (7, 1, []) tok 12 (by simp) (by simp) (bad_ok (by omega)), tn, Option.bind_some]
  dsimp only
  rw [hl]
  rfl

end Go.Vm
/- Sessions: SessionMany. -/
namespace Go.Vm

theorem keep_all {p : Se → Bool} {l : List Se} (h : ∀ x ∈ l, p x = false) : (l.filter fun x => !p x) = l := List.filter_eq_self.2 fun x hx => by rw [h x hx]; rfl
theorem exp_no {now : Int} {x : Se} (h : now ≤ x.2.2.2.2.2) (hn : badS now = false) : expP now x = false := by
  unfold expP
  rw [hn, if_pos (by rfl), bGt_false h]
theorem iMin_le {a b : Int} (h : a ≤ b) : iMin a b = a := by unfold iMin; omega
end Go.Vm
/- Sessions: SessionGone. -/
namespace Go.Vm

def credP (c : List Int) (x : Se) : Bool := sEq (ofBytes x.2.2.1) (ofBytes c)
theorem without4_eq (s : Ss) (c : List Int) (hl : s.2.2.length ≤ 1000000) : sh_session_without_4 (s, c) = some (withoutS (credP c) s) := by
  unfold sh_session_without_4
  dsimp only
  refine jn_count (fun i => ((0 : Int), (0 : Int), s.1, s.2.1, (s.2.2.take i).filter (fun x => !credP c x), c, s.2.2, (s.2.2.length : Int), (i : Int))) s.2.2.length ((0 : Int), (0 : Int), s.1, s.2.1, s.2.2.filter (fun x => !credP c x)) rfl (fun i hi => ?_) (by rw [if_neg (by simp [bLt])]; simp) rfl
  dsimp only
  rw [if_pos (bLt_true (by omega)), atL_nat (List.getElem?_eq_getElem hi)]
  have hf := filter_take_len (fun x => !credP c x) s.2.2 i
  have hq : (((s.2.2.take i).filter fun x => !credP c x).length + 1) * 72 ≤ 140737488355328 := by omega
  have h1 : ∀ x : Se, sh_session_RevokeCredential_1 (x, c) = some (credP c x) := fun x => rfl
  rw [show ((s.2.2[i].1, (s.2.2[i].2.1, (s.2.2[i].2.2.1, (s.2.2[i].2.2.2.1, (s.2.2[i].2.2.2.2.1, s.2.2[i].2.2.2.2.2))))) : Se) = s.2.2[i] from rfl, h1, Option.bind_some, filter_take_succ hi]
  by_cases hp : (!credP c s.2.2[i]) = true
  · rw [if_pos hp, if_pos hp, bnd_eq]
    refine (reqP_pos hq _).trans ?_
    rw [bnd_eq, bnd_eq, add_i64 (by omega)]
    rfl
  · rw [if_neg hp, if_neg hp, bnd_eq, add_i64 (by omega), List.append_nil]
    rfl
theorem RevokeCredential_eq (s : Ss) (c : List Int) (hl : s.2.2.length ≤ 1000000) : sh_session_RevokeCredential (s, c) = some (withoutS (credP c) s) := by
  unfold sh_session_RevokeCredential
  dsimp only
  rw [show ((s.1, (s.2.1, s.2.2)) : Ss) = s from rfl, without4_eq s c hl, Option.bind_some]

theorem add_u64 {a b : Int} (h : U64 (a + b)) : iAdd .u64 a b = a + b := wrap_u64_id h
/-- Opening while none is out of date and there is room. -/
theorem OpenRoom (sec c : Int) (l : List Se) (acc : List UInt8) (id : List Int) (model now dur : Int) (hl : l.length < 32) (ha : acc.length ≤ 1000000) (hid : id.length ≤ 1000000) (hn : 0 ≤ now ∧ now ≤ 1000) (hd : 1 ≤ dur ∧ dur ≤ 1000) (hc : 0 ≤ c ∧ c ≤ 1000) (he : ∀ x ∈ l, now ≤ x.2.2.2.2.2) :
    sh_session_Open ((sec, (c, l)), acc, id, model, now, dur) = some (sec, c + 1, l ++ [(c, acc, id, model, now, now + dur)], bytesS sec (c, acc, id, model, now, now + dur), 0) := by
  have hb : badS now = false := bad_ok (by omega)
  have h := Open_eq (sec, (c, l)) acc id model now dur (by dsimp only; omega) ha hid hb (by omega)
  have hw : withoutS (expP now) (sec, (c, l)) = (sec, (c, l)) := by
    unfold withoutS
    dsimp only
    rw [keep_all fun x hx => exp_no (he x hx) hb]
  have hx : newS (sec, (c, l)) acc id model now dur = (c, acc, id, model, now, now + dur) := by
    unfold newS
    rw [add_i64 (by omega), iMin_le (by omega)]
  have hnx : nextS (sec, (c, l)) now = l := by
    unfold nextS
    rw [hw, if_neg (by dsimp only; omega)]
  rw [hx, hnx, add_i64 (by dsimp only; omega)] at h
  exact h

def sesG (m : List Int) (i : Nat) : Se := ((i : Int), [97], [m.getD i 0 % 4], m.getD i 0 % 3 + 1, 0, 100)
def toksG (sec : Int) (m : List Int) (i : Nat) : List (List Int) := (List.range i).map fun j => bytesS sec (sesG m j)
def lstG (m : List Int) (i : Nat) : List Se := (List.range i).map (sesG m)
theorem lstG_len (m : List Int) (i : Nat) : (lstG m i).length = i := by simp [lstG]
theorem toksG_len (sec : Int) (m : List Int) (i : Nat) : (toksG sec m i).length = i := by simp [toksG]
theorem lstG_succ (m : List Int) (i : Nat) : lstG m (i + 1) = lstG m i ++ [sesG m i] := range_map_snoc _ _
theorem toksG_succ (sec : Int) (m : List Int) (i : Nat) : toksG sec m (i + 1) = toksG sec m i ++ [bytesS sec (sesG m i)] := range_map_snoc _ _
theorem toksG_get {sec : Int} {m : List Int} {i j : Nat} (h : i < j) : (toksG sec m j).getD i [] = bytesS sec (sesG m i) := getD_map_range h _
theorem sesG_inj {sec : Int} {m : List Int} {i j : Nat} (hi : i < 256) (hj : j < 256) (h : i ≠ j) : sEq (ofBytes (bytesS sec (sesG m i))) (ofBytes (bytesS sec (sesG m j))) = false := by
  by_cases c : sEq (ofBytes (bytesS sec (sesG m i))) (ofBytes (bytesS sec (sesG m j))) = true
  · have := tok_inj (x := sesG m i) (y := sesG m j) (by unfold sesG; dsimp only; omega) (by unfold sesG; dsimp only; omega) c
    unfold sesG at this
    dsimp only at this
    omega
  · simpa using c
/-- Which of the first are gone. -/
def goneG (m : List Int) (n : Nat) (how : Int) (i : Nat) : Bool :=
  decide (how % 4 = 0 ∧ m.getD i 0 % 3 = how / 4 % 3) || decide (how % 4 = 1 ∧ m.getD i 0 % 4 = how / 4 % 4) || decide (how % 4 = 2 ∧ (i : Int) = how / 4 % (n : Int))
def leftG (m : List Int) (n : Nat) (how : Int) : List Se := ((List.range n).filter fun i => !goneG m n how i).map (sesG m)
theorem left_of {m : List Int} {n : Nat} {how : Int} {q : Se → Bool} (h : ∀ i, i < n → q (sesG m i) = goneG m n how i) : (lstG m n).filter (fun x => !q x) = leftG m n how := by
  unfold lstG leftG
  rw [List.filter_map]
  congr 1
  apply List.filter_congr
  intro i hi
  show (!q (sesG m i)) = _
  rw [h i (List.mem_range.1 hi)]
theorem left_len (m : List Int) (n : Nat) (how : Int) : (leftG m n how).length ≤ n := by
  unfold leftG
  rw [List.length_map]
  exact Nat.le_trans (List.length_filter_le _ _) (by rw [List.length_range]; exact Nat.le_refl _)
theorem left_mem {m : List Int} {n : Nat} {how : Int} {x : Se} (h : x ∈ leftG m n how) : ∃ i, i < n ∧ goneG m n how i = false ∧ x = sesG m i := by
  unfold leftG at h
  obtain ⟨i, hi, rfl⟩ := List.mem_map.1 h
  obtain ⟨h1, h2⟩ := List.mem_filter.1 hi
  exact ⟨i, List.mem_range.1 h1, by simpa using h2, rfl⟩
theorem mem_left {m : List Int} {n : Nat} {how : Int} {i : Nat} (h : i < n) (hg : goneG m n how i = false) : sesG m i ∈ leftG m n how :=
  List.mem_map.2 ⟨i, List.mem_filter.2 ⟨List.mem_range.2 h, by rw [hg]; rfl⟩, rfl⟩
def flagG (m : List Int) (n : Nat) (how : Int) (i : Nat) : List Bool := (List.range n).map fun j => decide (j < i) && goneG m n how j
theorem flag_zero (m : List Int) (n : Nat) (how : Int) : List.replicate n false = flagG m n how 0 := by
  apply List.ext_getElem
  · simp [flagG]
  · intro j h1 h2
    simp [flagG]
theorem flag_len (m : List Int) (n : Nat) (how : Int) (i : Nat) : (flagG m n how i).length = n := by simp [flagG]
theorem flag_at {m : List Int} {n : Nat} {how : Int} {i j : Nat} (h : j < (flagG m n how i).length) : (flagG m n how i)[j] = (decide (j < i) && goneG m n how j) := by
  simp only [flagG, List.getElem_map, List.getElem_range]
theorem flag_set {m : List Int} {n : Nat} {how : Int} {i : Nat} : (flagG m n how i).set i (goneG m n how i) = flagG m n how (i + 1) := by
  apply List.ext_getElem
  · rw [List.length_set, flag_len, flag_len]
  · intro j h1 h2
    rw [List.getElem_set, flag_at]
    by_cases c : i = j
    · subst c
      rw [if_pos rfl, flag_at]
      simp
    · rw [if_neg c, flag_at]
      congr 1
      rw [decide_eq_decide]
      omega
theorem flag_get {m : List Int} {n : Nat} {how : Int} {i : Nat} (h : i < n) : (flagG m n how n).getD i false = goneG m n how i := by
  unfold flagG
  rw [getD_map_range h]
  simp [h]

/-- Those that are opened later. -/
def moreG (n i : Nat) : Se := (((n + i : Nat) : Int), [97], [(i : Int)], 2, 60, 70)
def fullG (m : List Int) (n : Nat) (how : Int) (t : Nat) : List Se := leftG m n how ++ (List.range t).map (moreG n)
theorem full_len (m : List Int) (n : Nat) (how : Int) (t : Nat) : (fullG m n how t).length ≤ n + t := by
  unfold fullG
  rw [List.length_append, List.length_map, List.length_range]
  have := left_len m n how
  omega
theorem full_mem {m : List Int} {n : Nat} {how : Int} {t : Nat} {x : Se} (h : x ∈ fullG m n how t) : (∃ i, i < n ∧ goneG m n how i = false ∧ x = sesG m i) ∨ ∃ i, i < t ∧ x = moreG n i := by
  unfold fullG at h
  rcases List.mem_append.1 h with h | h
  · exact .inl (left_mem h)
  · obtain ⟨i, hi, rfl⟩ := List.mem_map.1 h
    exact .inr ⟨i, List.mem_range.1 hi, rfl⟩
theorem full_succ (m : List Int) (n : Nat) (how : Int) (t : Nat) : fullG m n how (t + 1) = fullG m n how t ++ [moreG n t] := by
  unfold fullG
  rw [range_map_snoc, List.append_assoc]
theorem CheckG (sec : Int) (m : List Int) (n : Nat) (how : Int) (t i : Nat) (hn : n ≤ 20) (ht : t ≤ 7) (hi : i < n) :
    ∃ y, sh_session_Check ((sec, (((n + t : Nat) : Int), fullG m n how t)), bytesS sec (sesG m i), 65) = some y ∧ bEq y.2.2.2.2.2.2 0 = !goneG m n how i := by
  have hlen := full_len m n how t
  have hC := Check_eq (sec, (((n + t : Nat) : Int), fullG m n how t)) (bytesS sec (sesG m i)) 65 (by dsimp only; omega) (fun x hx => by
    rcases full_mem hx with ⟨j, _, _, rfl⟩ | ⟨j, _, rfl⟩
    · unfold sesG; simp
    · unfold moreG; simp) (bad_ok (by omega))
  refine ⟨_, hC, ?_⟩
  rcases check_spec (sec, (((n + t : Nat) : Int), fullG m n how t)) (bytesS sec (sesG m i)) 65 with ⟨j, h1, h2, h3, h4⟩ | ⟨h1, h3, h4⟩
  · rw [h4]
    rcases full_mem (List.getElem_mem h1) with ⟨p, g1, g2, g3⟩ | ⟨p, g1, g3⟩
    · have g3' : (sec, (((n + t : Nat) : Int), fullG m n how t)).2.2[j] = sesG m p := g3
      rw [g3'] at h2
      have := isP_num (x := sesG m i) (y := sesG m p) (by unfold sesG; dsimp only; omega) (by unfold sesG; dsimp only; omega) h2
      have : p = i := by unfold sesG at this; dsimp only at this; omega
      subst this
      rw [g2]
      rfl
    · have g3' : (sec, (((n + t : Nat) : Int), fullG m n how t)).2.2[j] = moreG n p := g3
      rw [g3'] at h2
      have := isP_num (x := sesG m i) (y := moreG n p) (by unfold sesG; dsimp only; omega) (by unfold moreG; dsimp only; omega) h2
      unfold sesG moreG at this
      dsimp only at this
      omega
  · rw [h4]
    cases hg : goneG m n how i with
    | true => rfl
    | false =>
      have := h1 (sesG m i) (List.mem_append_left _ (mem_left hi hg))
      have e : isP sec (bytesS sec (sesG m i)) 65 (sesG m i) = true := isP_self (bLe_true (by unfold sesG; dsimp only; omega))
      dsimp only at this
      rw [e] at this
      cases this
end Go.Vm
/- Sessions: SessionGone, the walk. -/
namespace Go.Vm

theorem jn_of {α ρ : Type} {m : Option (α ⊕ ρ)} {k : α → Option ρ} {R : Option ρ} {a : α} (h : m = some (.inl a)) (h2 : k a = R) : jn m k = R := by
  rw [h]; exact h2
theorem SessionGone_true (x : Int × List Int × Int × Int) (h : Goods [.int .u64, .list (.int .u8), .int .u8, .int .u8] x) : sh_passkeylaw34_SessionGone x = some true := by
  obtain ⟨sec, m, how, later⟩ := x
  obtain ⟨_, g2, g3, g4, _⟩ := goods_all h
  have hm : ∀ z ∈ m, 0 ≤ z ∧ z ≤ 255 := fun z hz => good_u8.1 (g2.2 z hz)
  have hml : m.length ≤ 9223372036854775807 := by
    have : m.length ≤ maxLen := g2.1
    unfold maxLen at this
    omega
  have hhow : 0 ≤ how ∧ how ≤ 255 := good_u8.1 g3
  have hlat : 0 ≤ later ∧ later ≤ 255 := good_u8.1 g4
  clear g2 g3 g4 h
  unfold sh_passkeylaw34_SessionGone
  have hN : sh_session_New sec = some (sec, 0, []) := rfl
  dsimp only
  rw [hN, Option.bind_some]
  generalize hn : min m.length 20 = n
  refine jn_count (fun i => (sec, (i : Int), lstG m i, toksG sec m i, m, how, later, (i : Int))) n (sec, (n : Int), lstG m n, toksG sec m n, m, how, later) rfl (fun i hi => ?_) ?_ ?_
  · dsimp only
    have hget : m[i]? = some (m.getD i 0) := by
      rw [List.getElem?_eq_getElem (by omega), getD_get (by omega)]
    have hmi := hm (m.getD i 0) (by rw [getD_get (by omega)]; exact List.getElem_mem _)
    rw [if_pos (bLt_true (by omega)), if_pos (bLt_true (by omega)), jn_inl]
    dsimp only
    rw [atL_nat hget, bnd_eq, atL_nat hget, rem_nonneg _ hmi.1, rem_nonneg _ hmi.1, conv_u64_id (by omega), add_u64 (by omega)]
    have hl := lstG_len m i
    have hO := OpenRoom sec (i : Int) (lstG m i) [97] [m.getD i 0 % 4] (m.getD i 0 % 3 + 1) 0 100 (by omega) (by simp) (by simp) (by omega) (by omega) (by omega) (fun x hx => by
      obtain ⟨j, _, rfl⟩ := List.mem_map.1 hx
      unfold sesG
      dsimp only
      omega)
    have e : ((List.replicate 1 (0 : Int)).set 0 (m.getD i 0 % 4)) = [m.getD i 0 % 4] := rfl
    rw [e, hO, Option.bind_some]
    dsimp only
    rw [if_neg (by rw [bNe_self]; simp)]
    have e2 : (((i : Int), [97], [m.getD i 0 % 4], m.getD i 0 % 3 + 1, 0, 0 + 100) : Se) = sesG m i := rfl
    rw [e2, ← lstG_succ]
    have ht := toksG_len sec m i
    refine jn_count (fun (k : Nat) => (sec, (i : Int), toksG sec m i, sec, (i : Int) + 1, lstG m (i + 1), bytesS sec (sesG m i), m, how, later, (i : Int), (k : Int), (i : Int), bLt (i : Int) 20)) i (sec, (i : Int), toksG sec m i, sec, (i : Int) + 1, lstG m (i + 1), bytesS sec (sesG m i), m, how, later, (i : Int), (i : Int), bLt (i : Int) 20) rfl (fun k hk => ?_) (by rw [if_neg (by dsimp only; rw [ht]; simp [bLt])]) ?_
    · dsimp only
      rw [if_pos (bLt_true (by rw [ht]; omega)), reqP_pos (by rw [ht]; omega), Int.toNat_natCast, toksG_get hk, if_neg (by rw [sesG_inj (by omega) (by omega) (by omega)]; simp), bnd_eq, add_i64 (by omega)]
      rfl
    · dsimp only
      rw [bnd_eq]
      have hq : ((toksG sec m i).length + 1) * 24 ≤ 140737488355328 := by omega
      refine (reqP_pos hq _).trans ?_
      rw [bnd_eq, bnd_eq, add_i64 (by omega), toksG_succ]
      rfl
  · dsimp only
    by_cases c : (n : Int) < (m.length : Int)
    · rw [if_pos (bLt_true c), if_neg (by rw [bLt_false (by omega)]; simp), jn_inr]
    · rw [if_neg (by rw [bLt_false (by omega)]; simp), jn_inr]
  have hn20 : n ≤ 20 := by omega
  have hnm : n ≤ m.length := by omega
  have ht := toksG_len sec m n
  have hl := lstG_len m n
  dsimp only
  rw [ht, reqP_pos (by omega), bnd_eq, bnd_eq]
  have hk : iConv .i64 (iShr .u8 how 2) = how / 4 := by
    rw [show iShr .u8 how 2 = how / 2 ^ 2 from shr_eq .u8 how 2 (by decide), conv_i64 (by omega)]
    omega
  have hk2 : 0 ≤ how / 4 ∧ how / 4 ≤ 63 := by omega
  have hc : iAnd .u8 how 3 = how % 4 := and_3 how .u8
  have hg0 : mkL (n : Int) false = flagG m n how 0 := by
    unfold mkL
    rw [Int.toNat_natCast, flag_zero m n how]
  rw [hk, hc, hg0]
  -- what is taken away
  refine jn_of (a := (sec, (n : Int), leftG m n how, toksG sec m n, flagG m n how 0, m, how, later, how / 4)) ?_ ?_
  · have h4 : how % 4 = 0 ∨ how % 4 = 1 ∨ how % 4 = 2 ∨ how % 4 = 3 := by omega
    have hall : ∀ z ∈ lstG m n, z.2.1.length ≤ 1000000 := fun z hz => by
      obtain ⟨j, _, rfl⟩ := List.mem_map.1 hz
      unfold sesG
      simp
    rcases h4 with c | c | c | c
    · rw [bnd_eq, if_pos (bEq_true c), rem_nonneg _ hk2.1, conv_u64_id (by omega), add_u64 (by omega)]
      rw [RevokeModel_eq (sec, ((n : Int), lstG m n)) _ (by dsimp only; omega), Option.bind_some]
      unfold withoutS
      dsimp only
      rw [left_of (how := how) (q := modelP (how / 4 % 3 + 1)) fun i hi => by
        unfold modelP goneG sesG
        dsimp only
        rw [if_pos (bNe_true (by omega))]
        by_cases e : m.getD i 0 % 3 = how / 4 % 3
        · rw [bEq_true (by omega), decide_eq_true ⟨c, e⟩]; rfl
        · rw [bEq_false (by omega), decide_eq_false (by omega), decide_eq_false (by omega), decide_eq_false (by omega)]; rfl]
    · rw [bnd_eq, if_neg (by rw [bEq_false (by omega)]; simp), bnd_eq, if_pos (bEq_true c), rem_nonneg _ hk2.1, conv_u8_id (by omega), bnd_eq]
      rw [RevokeCredential_eq (sec, ((n : Int), lstG m n)) _ (by dsimp only; omega), Option.bind_some]
      unfold withoutS
      dsimp only
      rw [left_of (how := how) (q := credP ((List.replicate 1 (0 : Int)).set 0 (how / 4 % 4))) fun i hi => by
        have hmi := hm (m.getD i 0) (by rw [getD_get (by omega)]; exact List.getElem_mem _)
        unfold credP goneG sesG
        dsimp only
        have e1 : ofBytes ((List.replicate 1 (0 : Int)).set 0 (how / 4 % 4)) = [UInt8.ofNat (how / 4 % 4).toNat] := rfl
        have e2 : ofBytes [m.getD i 0 % 4] = [UInt8.ofNat (m.getD i 0 % 4).toNat] := rfl
        rw [e1, e2]
        by_cases e : m.getD i 0 % 4 = how / 4 % 4
        · rw [e, sEq_self, decide_eq_true (show how % 4 = 1 ∧ how / 4 % 4 = how / 4 % 4 from ⟨c, rfl⟩), Bool.or_true]
          rfl
        · have ne : sEq [UInt8.ofNat (m.getD i 0 % 4).toNat] [UInt8.ofNat (how / 4 % 4).toNat] = false := by
            by_cases q : sEq [UInt8.ofNat (m.getD i 0 % 4).toNat] [UInt8.ofNat (how / 4 % 4).toNat] = true
            · have q : UInt8.ofNat (m.getD i 0 % 4).toNat = UInt8.ofNat (how / 4 % 4).toNat := by simpa [sEq] using q
              have q := congrArg UInt8.toNat q
              rw [UInt8.toNat_ofNat', UInt8.toNat_ofNat'] at q
              omega
            · simpa using q
          rw [ne, decide_eq_false (by omega), decide_eq_false (by omega), decide_eq_false (by omega)]; rfl]
    · rw [bnd_eq, if_neg (by rw [bEq_false (by omega)]; simp), bnd_eq, if_neg (by rw [bEq_false (by omega)]; simp), bnd_eq, if_pos (bEq_true c)]
      by_cases z : n = 0
      · have hle : leftG m n how = lstG m n := by subst z; rfl
        rw [if_neg (by rw [bGt_false (by omega)]; simp), hle]
      · have hr : iRem .i64 (how / 4) (n : Int) = how / 4 % (n : Int) := rem_nonneg _ hk2.1
        have hr0 : 0 ≤ how / 4 % (n : Int) ∧ how / 4 % (n : Int) < n := ⟨Int.emod_nonneg _ (by omega), Int.emod_lt_of_pos _ (by omega)⟩
        rw [if_pos (bGt_true (by omega)), reqP_pos (by omega), hr, reqP_pos hr0]
        obtain ⟨t, ht0⟩ : ∃ t : Nat, how / 4 % (n : Int) = (t : Int) := ⟨(how / 4 % (n : Int)).toNat, by omega⟩
        have htn : t < n := by omega
        rw [ht0, Int.toNat_natCast, toksG_get htn, Close_eq (sec, ((n : Int), lstG m n)) _ 50 (by dsimp only; omega) hall (bad_ok (by omega)), Option.bind_some]
        have hcl : closeS (sec, ((n : Int), lstG m n)) (bytesS sec (sesG m t)) 50 = ((sec, (n : Int), leftG m n how), 0) := by
          have hself : isP sec (bytesS sec (sesG m t)) 50 (sesG m t) = true := isP_self (bLe_true (show (50 : Int) ≤ 100 by omega))
          rcases check_spec (sec, ((n : Int), lstG m n)) (bytesS sec (sesG m t)) 50 with ⟨j, h1, h2, h3, h4⟩ | ⟨h1, _⟩
          · have hj : j < n := by dsimp only at h1; omega
            have e : (lstG m n)[j]'h1 = sesG m j := by
              simp only [lstG, List.getElem_map, List.getElem_range]
            have e' : (sec, ((n : Int), lstG m n)).2.2[j] = sesG m j := e
            rw [e'] at h2
            have := isP_num (x := sesG m t) (y := sesG m j) (by unfold sesG; dsimp only; omega) (by unfold sesG; dsimp only; omega) h2
            have : j = t := by unfold sesG at this; dsimp only at this; omega
            subst this
            unfold closeS
            rw [h3, if_neg (by rw [bLt_false (by omega)]; simp), Int.toNat_natCast, getD_get h1, e']
            unfold withoutS
            dsimp only
            have hk0 : (lstG m n).filter (fun x => !expP 50 x) = lstG m n := keep_all fun z hz => by
              obtain ⟨p, _, rfl⟩ := List.mem_map.1 hz
              exact exp_no (by unfold sesG; dsimp only; omega) (bad_ok (by omega))
            rw [hk0]
            rw [left_of (how := how) (q := closeP (sesG m j).1) fun i hi => by
              unfold closeP goneG sesG
              dsimp only
              by_cases e : i = j
              · subst e
                rw [bEq_self, decide_eq_true (show how % 4 = 2 ∧ (i : Int) = how / 4 % (n : Int) from ⟨c, ht0.symm⟩), Bool.or_true]
              · rw [bEq_false (by omega), decide_eq_false (by omega), decide_eq_false (by omega), decide_eq_false (by omega)]; rfl]
          · rw [h1 (sesG m t) (List.mem_map.2 ⟨t, List.mem_range.2 htn, rfl⟩)] at hself
            cases hself
        rw [hcl]
    · have hle : leftG m n how = lstG m n := by
        rw [← left_of (q := fun _ => false) fun i hi => by
          unfold goneG
          rw [decide_eq_false (by omega), decide_eq_false (by omega), decide_eq_false (by omega)]; rfl]
        simp
      rw [bnd_eq, if_neg (by rw [bEq_false (by omega)]; simp), bnd_eq, if_neg (by rw [bEq_false (by omega)]; simp), bnd_eq, if_neg (by rw [bEq_false (by omega)]; simp), hle]
  dsimp only
  -- the flags
  refine jn_count (fun (i : Nat) => (sec, (n : Int), leftG m n how, toksG sec m n, flagG m n how i, m, how, later, how / 4, (i : Int))) n (sec, (n : Int), leftG m n how, toksG sec m n, flagG m n how n, later) rfl (fun i hi => ?_) (by rw [if_neg (by dsimp only; rw [ht]; simp [bLt])]) ?_
  · dsimp only
    have hget : m[i]? = some (m.getD i 0) := by
      rw [List.getElem?_eq_getElem (by omega), getD_get (by omega)]
    have hmi := hm (m.getD i 0) (by rw [getD_get (by omega)]; exact List.getElem_mem _)
    have hfl := flag_len m n how i
    rw [if_pos (bLt_true (by rw [ht]; omega)), hc, atL_nat hget, atL_nat hget, rem_nonneg _ hmi.1, rem_nonneg _ hmi.1, rem_nonneg _ hk2.1, rem_nonneg _ hk2.1, conv_i64 (by omega), conv_i64 (by omega), ht]
    refine jn_of (a := (sec, (n : Int), leftG m n how, toksG sec m n, flagG m n how (i + 1), m, how, later, how / 4, (i : Int))) ?_ ?_
    · rw [← flag_set]
      have hin : (0 : Int) ≤ (i : Int) ∧ (i : Int) < ((flagG m n how i).length : Int) := by omega
      have hr : iRem .i64 (how / 4) (n : Int) = how / 4 % (n : Int) := rem_nonneg _ hk2.1
      rw [reqP_pos hin, hr, reqP_pos (show (n : Int) ≠ 0 by omega)]
      simp only [bnd_eq, Int.toNat_natCast]
      have h4 : how % 4 = 0 ∨ how % 4 = 1 ∨ how % 4 = 2 ∨ how % 4 = 3 := by omega
      unfold goneG
      rcases h4 with c | c | c | c
      · rw [if_pos (bEq_true c)]
        by_cases e : m.getD i 0 % 3 = how / 4 % 3
        · rw [if_pos (bEq_true e), decide_eq_true (show how % 4 = 0 ∧ m.getD i 0 % 3 = how / 4 % 3 from ⟨c, e⟩)]
          first | rfl | exact (reqP_pos hin _).trans rfl
        · rw [if_neg (by rw [bEq_false e]; simp), if_neg (by rw [bEq_false (by omega)]; simp), if_neg (by rw [bEq_false (by omega)]; simp), decide_eq_false (by omega), decide_eq_false (by omega), decide_eq_false (by omega)]
          first | rfl | exact (reqP_pos hin _).trans rfl
      · rw [if_neg (by rw [bEq_false (by omega)]; simp), if_pos (bEq_true c)]
        by_cases e : m.getD i 0 % 4 = how / 4 % 4
        · rw [if_pos (bEq_true e), decide_eq_true (show how % 4 = 1 ∧ m.getD i 0 % 4 = how / 4 % 4 from ⟨c, e⟩), Bool.or_true]
          first | rfl | exact (reqP_pos hin _).trans rfl
        · rw [if_neg (by rw [bEq_false e]; simp), if_neg (by rw [bEq_false (by omega)]; simp), decide_eq_false (by omega), decide_eq_false (by omega), decide_eq_false (by omega)]
          first | rfl | exact (reqP_pos hin _).trans rfl
      · rw [if_neg (by rw [bEq_false (by omega)]; simp), if_neg (by rw [bEq_false (by omega)]; simp), if_pos (bEq_true c), decide_eq_false (show ¬(how % 4 = 0 ∧ m.getD i 0 % 3 = how / 4 % 3) by omega), decide_eq_false (show ¬(how % 4 = 1 ∧ m.getD i 0 % 4 = how / 4 % 4) by omega), Bool.false_or, Bool.false_or]
        by_cases e : (i : Int) = how / 4 % (n : Int)
        · rw [bEq_true e, decide_eq_true ⟨c, e⟩]
          exact reqP_pos hin _
        · rw [bEq_false e, decide_eq_false (fun q => e q.2)]
          exact reqP_pos hin _
      · rw [if_neg (by rw [bEq_false (by omega)]; simp), if_neg (by rw [bEq_false (by omega)]; simp), if_neg (by rw [bEq_false (by omega)]; simp), decide_eq_false (by omega), decide_eq_false (by omega), decide_eq_false (by omega)]
        first | rfl | exact (reqP_pos hin _).trans rfl
    · dsimp only
      rw [bnd_eq, add_i64 (by omega)]
      rfl
  dsimp only
  -- what is opened later
  have hlt : iConv .i64 (iRem .u8 later 8) = ((later % 8).toNat : Int) := by
    rw [rem_nonneg _ hlat.1, conv_i64 (by omega)]
    omega
  generalize hT : (later % 8).toNat = T at hlt
  have hT7 : T ≤ 7 := by omega
  refine jn_count (fun (i : Nat) => (sec, ((n + i : Nat) : Int), fullG m n how i, toksG sec m n, flagG m n how n, later, (i : Int))) T (sec, ((n + T : Nat) : Int), fullG m n how T, toksG sec m n, flagG m n how n) (by simp [fullG]) (fun i hi => ?_) (by rw [if_neg (by dsimp only; rw [hlt]; simp [bLt])]) ?_
  · dsimp only
    have hfl := full_len m n how i
    have hO := OpenRoom sec ((n + i : Nat) : Int) (fullG m n how i) [97] ((List.replicate 1 (0 : Int)).set 0 (i : Int)) 2 60 10 (by omega) (by simp) (by simp) (by omega) (by omega) (by omega) (fun x hx => by
      rcases full_mem hx with ⟨j, _, _, rfl⟩ | ⟨j, _, rfl⟩
      · unfold sesG; dsimp only; omega
      · unfold moreG; dsimp only; omega)
    rw [if_pos (bLt_true (by rw [hlt]; omega)), bnd_eq, conv_u8_id (by omega), hO, Option.bind_some]
    dsimp only
    rw [if_neg (by rw [bNe_self]; simp), bnd_eq, add_i64 (by omega)]
    have e : ((((n + i : Nat) : Int), [97], (List.replicate 1 (0 : Int)).set 0 (i : Int), 2, 60, 60 + 10) : Se) = moreG n i := rfl
    rw [e, ← full_succ]
    rfl
  dsimp only
  -- the tokens of the first
  have hflag := flag_len m n how n
  refine jn_count (fun (i : Nat) => (sec, ((n + T : Nat) : Int), fullG m n how T, toksG sec m n, flagG m n how n, (i : Int))) n () rfl (fun i hi => ?_) (by rw [if_neg (by dsimp only; rw [ht]; simp [bLt])]) ?_
  · dsimp only
    obtain ⟨y, hy, hyc⟩ := CheckG sec m n how T i hn20 hT7 hi
    rw [if_pos (bLt_true (by rw [ht]; omega)), reqP_pos (by rw [ht]; omega), Int.toNat_natCast, toksG_get hi, hy, Option.bind_some, reqP_pos (by rw [hflag]; omega), flag_get hi, hyc]
    rw [if_neg (by cases goneG m n how i <;> decide), bnd_eq, add_i64 (by omega)]
    rfl
  · rw [awake_true, Option.bind_some]
end Go.Vm
