/- What the functions compute. PRINTED by a program of this session's. -/
import Derived.Test.YtengonaonfdlkaaV5
set_option linter.unusedVariables false
namespace Go.Vm
noncomputable section
def sh_digest_Words (x : (List Int)) : Option (List Int) :=
  jn (α := (List Int)) (ρ := (List Int)) (loopLim (σ := ((List Int) × (List Int) × Int × Int)) (α := (List Int) ⊕ (List Int)) (fun s0 =>
    if (bLt s0.2.2.2 s0.2.2.1) then
      atL s0.2.1 s0.2.2.2 fun y2 =>
      jn (α := ((List Int) × (List Int) × Int × Int)) (ρ := (((List Int) × (List Int) × Int × Int) ⊕ ((List Int) ⊕ (List Int)))) (loopLim (σ := ((List Int) × Int × (List Int) × Int × Int × Int)) (α := ((List Int) × (List Int) × Int × Int) ⊕ (((List Int) × (List Int) × Int × Int) ⊕ ((List Int) ⊕ (List Int)))) (fun s3 =>
        if (bLt s3.2.2.2.2.2 (8 : Int)) then
          reqP (0 ≤ (iSub .i64 (56 : Int) (iMul .i64 (8 : Int) s3.2.2.2.2.2))) <|
          bnd ((List.replicate 1 (0 : Int)).set 0 (iConv .u8 (iShr .u64 s3.2.1 (iSub .i64 (56 : Int) (iMul .i64 (8 : Int) s3.2.2.2.2.2))))) fun b5 =>
          reqP ((s3.1.length + b5.length) * 1 ≤ 140737488355328) <|
          bnd (s3.1 ++ b5) fun b6 =>
          bnd (iAdd .i64 s3.2.2.2.2.2 (1 : Int)) fun b7 =>
          some (.inl (b6, s3.2.1, s3.2.2.1, s3.2.2.2.1, s3.2.2.2.2.1, b7))
        else
          some (.inr (.inl (s3.1, s3.2.2.1, s3.2.2.2.1, s3.2.2.2.2.1)))
      ) (s0.1, y2, s0.2.1, s0.2.2.1, s0.2.2.2, (0 : Int))) fun j4 =>
      bnd (iAdd .i64 j4.2.2.2 (1 : Int)) fun b8 =>
      some (.inl (j4.1, j4.2.1, j4.2.2.1, b8))
    else
      some (.inr (.inl s0.1))
  ) (([] : List Int), x, (x.length : Int), (0 : Int))) fun j1 =>
  some j1

def sh_digest_little (x : (List Int)) : Option Int :=
  jn (α := Int) (ρ := Int) (loopLim (σ := (Int × (List Int) × Int × Int)) (α := Int ⊕ Int) (fun s0 =>
    if (bLt s0.2.2.2 s0.2.2.1) then
      atL s0.2.1 s0.2.2.2 fun y2 =>
      reqP (0 ≤ (iMul .i64 (8 : Int) s0.2.2.2)) <|
      bnd (iOr .u64 s0.1 (iShl .u64 (iConv .u64 y2) (iMul .i64 (8 : Int) s0.2.2.2))) fun b3 =>
      bnd (iAdd .i64 s0.2.2.2 (1 : Int)) fun b4 =>
      some (.inl (b3, s0.2.1, s0.2.2.1, b4))
    else
      some (.inr (.inl s0.1))
  ) ((0 : Int), x, (x.length : Int), (0 : Int))) fun j1 =>
  some j1

def sh_math_bits_RotateLeft64 (x : Int × Int) : Option Int :=
  bnd (iAnd .u64 (iConv .u64 x.2) (63 : Int)) fun b0 =>
  reqP (0 ≤ b0) <|
  reqP (0 ≤ (iSub .u64 (64 : Int) b0)) <|
  bnd (iOr .u64 (iShl .u64 x.1 b0) (iShr .u64 x.1 (iSub .u64 (64 : Int) b0))) fun b1 =>
  some b1

def sh___passkey_digest_state__round (x : Int × Int × Int × Int × Int) : Option (Int × Int × Int × Int) :=
  jn (α := (Int × Int × Int × Int)) (ρ := (Int × Int × Int × Int)) (loopLim (σ := (Int × Int × Int × Int × Int × Int)) (α := (Int × Int × Int × Int) ⊕ (Int × Int × Int × Int)) (fun s0 =>
    if (bLt s0.2.2.2.2.2 s0.2.2.2.2.1) then
      bnd (iAdd .u64 s0.1 s0.2.1) fun b2 =>
      Option.bind (sh_math_bits_RotateLeft64 (s0.2.1, (13 : Int))) fun r3 =>
      bnd (iXor .u64 r3 b2) fun b4 =>
      Option.bind (sh_math_bits_RotateLeft64 (b2, (32 : Int))) fun r5 =>
      bnd (iAdd .u64 s0.2.2.1 s0.2.2.2.1) fun b6 =>
      Option.bind (sh_math_bits_RotateLeft64 (s0.2.2.2.1, (16 : Int))) fun r7 =>
      bnd (iXor .u64 r7 b6) fun b8 =>
      bnd (iAdd .u64 r5 b8) fun b9 =>
      Option.bind (sh_math_bits_RotateLeft64 (b8, (21 : Int))) fun r10 =>
      bnd (iXor .u64 r10 b9) fun b11 =>
      bnd (iAdd .u64 b6 b4) fun b12 =>
      Option.bind (sh_math_bits_RotateLeft64 (b4, (17 : Int))) fun r13 =>
      bnd (iXor .u64 r13 b12) fun b14 =>
      Option.bind (sh_math_bits_RotateLeft64 (b12, (32 : Int))) fun r15 =>
      bnd (iAdd .i64 s0.2.2.2.2.2 (1 : Int)) fun b16 =>
      some (.inl (b9, b14, r15, b11, s0.2.2.2.2.1, b16))
    else
      some (.inr (.inl (s0.1, s0.2.1, s0.2.2.1, s0.2.2.2.1)))
  ) (x.1, x.2.1, x.2.2.1, x.2.2.2.1, x.2.2.2.2, (0 : Int))) fun j1 =>
  some (j1.1, j1.2.1, j1.2.2.1, j1.2.2.2)

def sh___passkey_digest_state__word (x : Int × Int × Int × Int × Int) : Option (Int × Int × Int × Int) :=
  bnd (iXor .u64 x.2.2.2.1 x.2.2.2.2) fun b0 =>
  Option.bind (sh___passkey_digest_state__round (x.1, x.2.1, x.2.2.1, b0, (2 : Int))) fun r1 =>
  bnd (iXor .u64 r1.1 x.2.2.2.2) fun b2 =>
  some (b2, r1.2.1, r1.2.2.1, r1.2.2.2)

def sh_digest_Sum (x : Int × Int × (List Int)) : Option Int :=
  bnd (iShl .u64 (iConv .u64 (x.2.2.length : Int)) (56 : Int)) fun b0 =>
  jn (α := (Int × Int × Int × Int × (List Int) × Int)) (ρ := Int) (loopLim (σ := (Int × Int × Int × Int × (List Int) × Int)) (α := (Int × Int × Int × Int × (List Int) × Int) ⊕ Int) (fun s1 =>
    if (bGe (s1.2.2.2.2.1.length : Int) (8 : Int)) then
      reqP (0 ≤ (8 : Int) ∧ (8 : Int) ≤ (s1.2.2.2.2.1.length : Int)) <|
      Option.bind (sh_digest_little (s1.2.2.2.2.1.take (8 : Int).toNat)) fun r3 =>
      Option.bind (sh___passkey_digest_state__word (s1.1, s1.2.1, s1.2.2.1, s1.2.2.2.1, r3)) fun r4 =>
      reqP (0 ≤ (8 : Int) ∧ (8 : Int) ≤ (s1.2.2.2.2.1.length : Int)) <|
      some (.inl (r4.1, r4.2.1, r4.2.2.1, r4.2.2.2, (s1.2.2.2.2.1.drop (8 : Int).toNat), s1.2.2.2.2.2))
    else
      some (.inr (.inl (s1.1, s1.2.1, s1.2.2.1, s1.2.2.2.1, s1.2.2.2.2.1, s1.2.2.2.2.2)))
  ) ((iXor .u64 x.1 (8317987319222330741 : Int)), (iXor .u64 x.2.1 (7237128888997146477 : Int)), (iXor .u64 x.1 (7816392313619706465 : Int)), (iXor .u64 x.2.1 (8387220255154660723 : Int)), x.2.2, b0)) fun j2 =>
  Option.bind (sh_digest_little j2.2.2.2.2.1) fun r5 =>
  Option.bind (sh___passkey_digest_state__word (j2.1, j2.2.1, j2.2.2.1, j2.2.2.2.1, (iOr .u64 j2.2.2.2.2.2 r5))) fun r6 =>
  bnd (iXor .u64 r6.2.2.1 (255 : Int)) fun b7 =>
  Option.bind (sh___passkey_digest_state__round (r6.1, r6.2.1, b7, r6.2.2.2, (4 : Int))) fun r8 =>
  bnd (iXor .u64 (iXor .u64 (iXor .u64 r8.1 r8.2.1) r8.2.2.1) r8.2.2.2) fun b9 =>
  some b9

def sh_digest_Hash (x : Int × (List Int)) : Option Int :=
  Option.bind (sh_digest_Sum ((iConv .u64 x.1), (0 : Int), x.2)) fun r0 =>
  some r0

def sh_passkeyref1_Words (x : (List Int)) : Option (List Int) :=
  jn (α := (List Int)) (ρ := (List Int)) (loopLim (σ := ((List Int) × (List Int) × Int)) (α := (List Int) ⊕ (List Int)) (fun s0 =>
    if (bLt s0.2.2 (s0.2.1.length : Int)) then
      jn (α := ((List Int) × (List Int) × Int)) (ρ := (((List Int) × (List Int) × Int) ⊕ ((List Int) ⊕ (List Int)))) (loopLim (σ := ((List Int) × (List Int) × Int × Int)) (α := ((List Int) × (List Int) × Int) ⊕ (((List Int) × (List Int) × Int) ⊕ ((List Int) ⊕ (List Int)))) (fun s2 =>
        if (bGe s2.2.2.2 (0 : Int)) then
          atL s2.2.1 s2.2.2.1 fun y4 =>
          reqP (0 ≤ (iConv .u64 (iMul .i64 (8 : Int) s2.2.2.2))) <|
          bnd ((List.replicate 1 (0 : Int)).set 0 (iConv .u8 (iShr .u64 y4 (iConv .u64 (iMul .i64 (8 : Int) s2.2.2.2))))) fun b5 =>
          reqP ((s2.1.length + b5.length) * 1 ≤ 140737488355328) <|
          bnd (s2.1 ++ b5) fun b6 =>
          bnd (iSub .i64 s2.2.2.2 (1 : Int)) fun b7 =>
          some (.inl (b6, s2.2.1, s2.2.2.1, b7))
        else
          some (.inr (.inl (s2.1, s2.2.1, s2.2.2.1)))
      ) (s0.1, s0.2.1, s0.2.2, (7 : Int))) fun j3 =>
      bnd (iAdd .i64 j3.2.2 (1 : Int)) fun b8 =>
      some (.inl (j3.1, j3.2.1, b8))
    else
      some (.inr (.inl s0.1))
  ) (([] : List Int), x, (0 : Int))) fun j1 =>
  some j1

def sh_passkeyref1_rotl (x : Int × Int) : Option Int :=
  reqP (0 ≤ x.2) <|
  reqP (0 ≤ (iSub .u64 (64 : Int) x.2)) <|
  bnd (iOr .u64 (iShl .u64 x.1 x.2) (iShr .u64 x.1 (iSub .u64 (64 : Int) x.2))) fun b0 =>
  some b0

def sh_passkeyref1_round (x : (Arr 4 Int)) : Option (Arr 4 Int) :=
  reqP (0 ≤ (0 : Int) ∧ (0 : Int) < 4) <|
  reqP (0 ≤ (1 : Int) ∧ (1 : Int) < 4) <|
  reqP (0 ≤ (0 : Int) ∧ (0 : Int) < 4) <|
  bnd (arrWr x (0 : Int) (iAdd .u64 (arrRd (0 : Int) x (0 : Int)) (arrRd (0 : Int) x (1 : Int)))) fun b0 =>
  reqP (0 ≤ (1 : Int) ∧ (1 : Int) < 4) <|
  Option.bind (sh_passkeyref1_rotl ((arrRd (0 : Int) b0 (1 : Int)), (13 : Int))) fun r1 =>
  reqP (0 ≤ (0 : Int) ∧ (0 : Int) < 4) <|
  reqP (0 ≤ (1 : Int) ∧ (1 : Int) < 4) <|
  bnd (arrWr b0 (1 : Int) (iXor .u64 r1 (arrRd (0 : Int) b0 (0 : Int)))) fun b2 =>
  reqP (0 ≤ (0 : Int) ∧ (0 : Int) < 4) <|
  Option.bind (sh_passkeyref1_rotl ((arrRd (0 : Int) b2 (0 : Int)), (32 : Int))) fun r3 =>
  reqP (0 ≤ (0 : Int) ∧ (0 : Int) < 4) <|
  bnd (arrWr b2 (0 : Int) r3) fun b4 =>
  reqP (0 ≤ (2 : Int) ∧ (2 : Int) < 4) <|
  reqP (0 ≤ (3 : Int) ∧ (3 : Int) < 4) <|
  reqP (0 ≤ (2 : Int) ∧ (2 : Int) < 4) <|
  bnd (arrWr b4 (2 : Int) (iAdd .u64 (arrRd (0 : Int) b4 (2 : Int)) (arrRd (0 : Int) b4 (3 : Int)))) fun b5 =>
  reqP (0 ≤ (3 : Int) ∧ (3 : Int) < 4) <|
  Option.bind (sh_passkeyref1_rotl ((arrRd (0 : Int) b5 (3 : Int)), (16 : Int))) fun r6 =>
  reqP (0 ≤ (2 : Int) ∧ (2 : Int) < 4) <|
  reqP (0 ≤ (3 : Int) ∧ (3 : Int) < 4) <|
  bnd (arrWr b5 (3 : Int) (iXor .u64 r6 (arrRd (0 : Int) b5 (2 : Int)))) fun b7 =>
  reqP (0 ≤ (0 : Int) ∧ (0 : Int) < 4) <|
  reqP (0 ≤ (3 : Int) ∧ (3 : Int) < 4) <|
  reqP (0 ≤ (0 : Int) ∧ (0 : Int) < 4) <|
  bnd (arrWr b7 (0 : Int) (iAdd .u64 (arrRd (0 : Int) b7 (0 : Int)) (arrRd (0 : Int) b7 (3 : Int)))) fun b8 =>
  reqP (0 ≤ (3 : Int) ∧ (3 : Int) < 4) <|
  Option.bind (sh_passkeyref1_rotl ((arrRd (0 : Int) b8 (3 : Int)), (21 : Int))) fun r9 =>
  reqP (0 ≤ (0 : Int) ∧ (0 : Int) < 4) <|
  reqP (0 ≤ (3 : Int) ∧ (3 : Int) < 4) <|
  bnd (arrWr b8 (3 : Int) (iXor .u64 r9 (arrRd (0 : Int) b8 (0 : Int)))) fun b10 =>
  reqP (0 ≤ (2 : Int) ∧ (2 : Int) < 4) <|
  reqP (0 ≤ (1 : Int) ∧ (1 : Int) < 4) <|
  reqP (0 ≤ (2 : Int) ∧ (2 : Int) < 4) <|
  bnd (arrWr b10 (2 : Int) (iAdd .u64 (arrRd (0 : Int) b10 (2 : Int)) (arrRd (0 : Int) b10 (1 : Int)))) fun b11 =>
  reqP (0 ≤ (1 : Int) ∧ (1 : Int) < 4) <|
  Option.bind (sh_passkeyref1_rotl ((arrRd (0 : Int) b11 (1 : Int)), (17 : Int))) fun r12 =>
  reqP (0 ≤ (2 : Int) ∧ (2 : Int) < 4) <|
  reqP (0 ≤ (1 : Int) ∧ (1 : Int) < 4) <|
  bnd (arrWr b11 (1 : Int) (iXor .u64 r12 (arrRd (0 : Int) b11 (2 : Int)))) fun b13 =>
  reqP (0 ≤ (2 : Int) ∧ (2 : Int) < 4) <|
  Option.bind (sh_passkeyref1_rotl ((arrRd (0 : Int) b13 (2 : Int)), (32 : Int))) fun r14 =>
  reqP (0 ≤ (2 : Int) ∧ (2 : Int) < 4) <|
  bnd (arrWr b13 (2 : Int) r14) fun b15 =>
  some b15

def sh_passkeyref1_Sum (x : Int × Int × (List Int)) : Option Int :=
  jn (α := (Arr 4 Int)) (ρ := Int) (loopLim (σ := ((Arr 4 Int) × (List Int) × Int)) (α := (Arr 4 Int) ⊕ Int) (fun s0 =>
    if (bLe s0.2.2 (s0.2.1.length : Int)) then
      jn (α := ((Arr 4 Int) × (List Int) × Int × Int)) (ρ := (((Arr 4 Int) × (List Int) × Int) ⊕ ((Arr 4 Int) ⊕ Int))) (loopLim (σ := ((Arr 4 Int) × (List Int) × Int × Int × Int)) (α := ((Arr 4 Int) × (List Int) × Int × Int) ⊕ (((Arr 4 Int) × (List Int) × Int) ⊕ ((Arr 4 Int) ⊕ Int))) (fun s2 =>
        if (bGe s2.2.2.2.2 (0 : Int)) then
          jn (α := ((Arr 4 Int) × (List Int) × Int × Int × Int)) (ρ := (((Arr 4 Int) × (List Int) × Int × Int × Int) ⊕ (((Arr 4 Int) × (List Int) × Int × Int) ⊕ (((Arr 4 Int) × (List Int) × Int) ⊕ ((Arr 4 Int) ⊕ Int))))) (
            jn (α := ((Arr 4 Int) × (List Int) × Int × Int × Int × Int)) (ρ := (((Arr 4 Int) × (List Int) × Int × Int × Int) ⊕ (((Arr 4 Int) × (List Int) × Int × Int × Int) ⊕ (((Arr 4 Int) × (List Int) × Int × Int) ⊕ (((Arr 4 Int) × (List Int) × Int) ⊕ ((Arr 4 Int) ⊕ Int)))))) (
              if (bLt (iAdd .i64 s2.2.2.1 s2.2.2.2.2) (s2.2.1.length : Int)) then
                atL s2.2.1 (iAdd .i64 s2.2.2.1 s2.2.2.2.2) fun y6 =>
                some (.inl (s2.1, s2.2.1, s2.2.2.1, s2.2.2.2.1, s2.2.2.2.2, y6))
              else
                if (bEq s2.2.2.2.2 (7 : Int)) then
                  bnd (iConv .u8 (s2.2.1.length : Int)) fun b7 =>
                  some (.inl (s2.1, s2.2.1, s2.2.2.1, s2.2.2.2.1, s2.2.2.2.2, b7))
                else
                  some (.inl (s2.1, s2.2.1, s2.2.2.1, s2.2.2.2.1, s2.2.2.2.2, (0 : Int)))
            ) fun j5 =>
            bnd (iOr .u64 (iShl .u64 j5.2.2.2.1 (8 : Int)) (iConv .u64 j5.2.2.2.2.2)) fun b8 =>
            some (.inl (j5.1, j5.2.1, j5.2.2.1, b8, j5.2.2.2.2.1))
          ) fun j4 =>
          bnd (iSub .i64 j4.2.2.2.2 (1 : Int)) fun b9 =>
          some (.inl (j4.1, j4.2.1, j4.2.2.1, j4.2.2.2.1, b9))
        else
          some (.inr (.inl (s2.1, s2.2.1, s2.2.2.1, s2.2.2.2.1)))
      ) (s0.1, s0.2.1, s0.2.2, (0 : Int), (7 : Int))) fun j3 =>
      reqP (0 ≤ (3 : Int) ∧ (3 : Int) < 4) <|
      reqP (0 ≤ (3 : Int) ∧ (3 : Int) < 4) <|
      bnd (arrWr j3.1 (3 : Int) (iXor .u64 (arrRd (0 : Int) j3.1 (3 : Int)) j3.2.2.2)) fun b10 =>
      Option.bind (sh_passkeyref1_round b10) fun r11 =>
      Option.bind (sh_passkeyref1_round r11) fun r12 =>
      reqP (0 ≤ (0 : Int) ∧ (0 : Int) < 4) <|
      reqP (0 ≤ (0 : Int) ∧ (0 : Int) < 4) <|
      bnd (arrWr r12 (0 : Int) (iXor .u64 (arrRd (0 : Int) r12 (0 : Int)) j3.2.2.2)) fun b13 =>
      bnd (iAdd .i64 j3.2.2.1 (8 : Int)) fun b14 =>
      some (.inl (b13, j3.2.1, b14))
    else
      some (.inr (.inl s0.1))
  ) ((⟨[(iXor .u64 x.1 (8317987319222330741 : Int)), (iXor .u64 x.2.1 (7237128888997146477 : Int)), (iXor .u64 x.1 (7816392313619706465 : Int)), (iXor .u64 x.2.1 (8387220255154660723 : Int))], rfl⟩ : Arr 4 Int), x.2.2, (0 : Int))) fun j1 =>
  reqP (0 ≤ (2 : Int) ∧ (2 : Int) < 4) <|
  reqP (0 ≤ (2 : Int) ∧ (2 : Int) < 4) <|
  bnd (arrWr j1 (2 : Int) (iXor .u64 (arrRd (0 : Int) j1 (2 : Int)) (255 : Int))) fun b15 =>
  Option.bind (sh_passkeyref1_round b15) fun r16 =>
  Option.bind (sh_passkeyref1_round r16) fun r17 =>
  Option.bind (sh_passkeyref1_round r17) fun r18 =>
  Option.bind (sh_passkeyref1_round r18) fun r19 =>
  reqP (0 ≤ (0 : Int) ∧ (0 : Int) < 4) <|
  reqP (0 ≤ (1 : Int) ∧ (1 : Int) < 4) <|
  reqP (0 ≤ (2 : Int) ∧ (2 : Int) < 4) <|
  reqP (0 ≤ (3 : Int) ∧ (3 : Int) < 4) <|
  bnd (iXor .u64 (iXor .u64 (iXor .u64 (arrRd (0 : Int) r19 (0 : Int)) (arrRd (0 : Int) r19 (1 : Int))) (arrRd (0 : Int) r19 (2 : Int))) (arrRd (0 : Int) r19 (3 : Int))) fun b20 =>
  some b20

def sh_passkeyref1_Mac (x : Int × Int × (List Int)) : Option Int :=
  Option.bind (sh_passkeyref1_Sum (x.1, (iAdd .u64 (1 : Int) (iConv .u64 x.2.1)), x.2.2)) fun r0 =>
  some r0

def sh_lease_word (x : (List Int)) : Option Int :=
  reqP (0 ≤ (8 : Int) ∧ (8 : Int) ≤ (x.length : Int)) <|
  jn (α := Int) (ρ := Int) (loopLim (σ := (Int × (List Int) × Int × Int)) (α := Int ⊕ Int) (fun s0 =>
    if (bLt s0.2.2.2 s0.2.2.1) then
      atL s0.2.1 s0.2.2.2 fun y2 =>
      bnd (iOr .u64 (iShl .u64 s0.1 (8 : Int)) (iConv .u64 y2)) fun b3 =>
      bnd (iAdd .i64 s0.2.2.2 (1 : Int)) fun b4 =>
      some (.inl (b3, s0.2.1, s0.2.2.1, b4))
    else
      some (.inr (.inl s0.1))
  ) ((0 : Int), (x.take (8 : Int).toNat), ((x.take (8 : Int).toNat).length : Int), (0 : Int))) fun j1 =>
  some j1

def sh_treekey_tall (x : Int) : Option Bool :=
  if (bGe x (0 : Int)) then
    bnd (bLe x (4 : Int)) fun b0 =>
    some b0
  else
    some false

def sh_treekey_EncodeKey (x : (Int × Int)) : Option ((List Int) × Int) :=
  Option.bind (sh_treekey_tall x.1) fun r0 =>
  if (!r0) then
    some (([] : List Int), (9 : Int))
  else
    bnd ((List.replicate 1 (0 : Int)).set 0 (iConv .u8 x.1)) fun b1 =>
    bnd ((List.replicate 1 (0 : Int)).set 0 x.2) fun b2 =>
    Option.bind (sh_digest_Words b2) fun r3 =>
    reqP ((b1.length + r3.length) * 1 ≤ 140737488355328) <|
    bnd (b1 ++ r3) fun b4 =>
    some (b4, (0 : Int))

def sh_authdata_Validate (x : (Int × Int × Int × Int × Int × (List Int) × Int × Int)) : Option Int :=
  jn (α := (Int × Int × Int × Int × Int × (List Int) × Int × Int)) (ρ := Int) (
    if (bNe (iAndNot .i64 x.2.1 (93 : Int)) (0 : Int)) then
      some (.inr (9 : Int))
    else
      if (bLt x.2.2.1 (0 : Int)) then
        some (.inr (9 : Int))
      else
        if (bGt x.2.2.1 (16 : Int)) then
          some (.inr (9 : Int))
        else
          if (bLt x.2.2.2.1 (0 : Int)) then
            some (.inr (9 : Int))
          else
            if (bGe x.2.2.2.1 (16 : Int)) then
              some (.inr (9 : Int))
            else
              some (.inl (x.1, x.2.1, x.2.2.1, x.2.2.2.1, x.2.2.2.2.1, x.2.2.2.2.2.1, x.2.2.2.2.2.2.1, x.2.2.2.2.2.2.2))
  ) fun j0 =>
  jn (α := (Int × Int × Int × Int × Int × (List Int) × Int × Int)) (ρ := Int) (
    if (bNe (iAnd .i64 j0.2.1 (16 : Int)) (0 : Int)) then
      if (bEq (iAnd .i64 j0.2.1 (8 : Int)) (0 : Int)) then
        some (.inr (18 : Int))
      else
        some (.inl (j0.1, j0.2.1, j0.2.2.1, j0.2.2.2.1, j0.2.2.2.2.1, j0.2.2.2.2.2.1, j0.2.2.2.2.2.2.1, j0.2.2.2.2.2.2.2))
    else
      some (.inl (j0.1, j0.2.1, j0.2.2.1, j0.2.2.2.1, j0.2.2.2.2.1, j0.2.2.2.2.2.1, j0.2.2.2.2.2.2.1, j0.2.2.2.2.2.2.2))
  ) fun j1 =>
  if (bEq (iAnd .i64 j1.2.1 (64 : Int)) (0 : Int)) then
    if (bNe j1.2.2.2.2.1 (0 : Int)) then
      some (4 : Int)
    else
      if (bGt (j1.2.2.2.2.2.1.length : Int) (0 : Int)) then
        some (4 : Int)
      else
        if (!((bEq j1.2.2.2.2.2.2.1 (0 : Int)) && ((bEq j1.2.2.2.2.2.2.2 (0 : Int)) && true))) then
          some (4 : Int)
        else
          some (0 : Int)
  else
    if (bNe (j1.2.2.2.2.2.1.length : Int) (176 : Int)) then
      some (4 : Int)
    else
      Option.bind (sh_treekey_EncodeKey (j1.2.2.2.2.2.2.1, j1.2.2.2.2.2.2.2)) fun r2 =>
      some r2.2

def sh_authdata_Encode (x : (Int × Int × Int × Int × Int × (List Int) × Int × Int)) : Option ((List Int) × Int) :=
  Option.bind (sh_authdata_Validate (x.1, (x.2.1, (x.2.2.1, (x.2.2.2.1, (x.2.2.2.2.1, (x.2.2.2.2.2.1, (x.2.2.2.2.2.2.1, x.2.2.2.2.2.2.2)))))))) fun r0 =>
  if (bNe r0 (0 : Int)) then
    some (([] : List Int), r0)
  else
    bnd ((List.replicate 1 (0 : Int)).set 0 x.1) fun b1 =>
    Option.bind (sh_digest_Words b1) fun r2 =>
    bnd ((((List.replicate 3 (0 : Int)).set 0 (iConv .u8 x.2.1)).set 1 (iConv .u8 x.2.2.1)).set 2 (iConv .u8 x.2.2.2.1)) fun b3 =>
    reqP ((r2.length + b3.length) * 1 ≤ 140737488355328) <|
    bnd (r2 ++ b3) fun b4 =>
    jn (α := (List Int)) (ρ := ((List Int) × Int)) (
      if (bNe (iAnd .i64 x.2.1 (64 : Int)) (0 : Int)) then
        Option.bind (sh_treekey_EncodeKey (x.2.2.2.2.2.2.1, x.2.2.2.2.2.2.2)) fun r6 =>
        bnd ((List.replicate 1 (0 : Int)).set 0 x.2.2.2.2.1) fun b7 =>
        Option.bind (sh_digest_Words b7) fun r8 =>
        reqP ((b4.length + r8.length) * 1 ≤ 140737488355328) <|
        bnd (b4 ++ r8) fun b9 =>
        reqP ((b9.length + x.2.2.2.2.2.1.length) * 1 ≤ 140737488355328) <|
        bnd (b9 ++ x.2.2.2.2.2.1) fun b10 =>
        reqP ((b10.length + r6.1.length) * 1 ≤ 140737488355328) <|
        bnd (b10 ++ r6.1) fun b11 =>
        some (.inl b11)
      else
        some (.inl b4)
    ) fun j5 =>
    some (j5, (0 : Int))

def sh_authdata_RPHash (x : (List UInt8)) : Option Int :=
  bnd (toBytes x) fun b0 =>
  Option.bind (sh_digest_Hash ((9 : Int), b0)) fun r1 =>
  some r1

def sh_passkeylaw14_awake (x : Unit) : Option Bool :=
  Option.bind (sh_authdata_Encode ((1 : Int), ((1 : Int), ((2 : Int), ((0 : Int), ((0 : Int), (([] : List Int), ((0 : Int), (0 : Int))))))))) fun r0 =>
  if (bEq r0.2 (0 : Int)) then
    if (sEq (ofBytes r0.1) ([0, 0, 0, 0, 0, 0, 0, 1, 1, 2, 0] : List UInt8)) then
      Option.bind (sh_authdata_RPHash ([97] : List UInt8)) fun r1 =>
      Option.bind (sh_authdata_RPHash ([97] : List UInt8)) fun r2 =>
      if (bEq r1 r2) then
        Option.bind (sh_authdata_Validate ((0 : Int), ((0 : Int), ((17 : Int), ((0 : Int), ((0 : Int), (([] : List Int), ((0 : Int), (0 : Int))))))))) fun r3 =>
        bnd (bEq r3 (9 : Int)) fun b4 =>
        some b4
      else
        some false
    else
      some false
  else
    some false

def sh_passkeyref3_Stream (x : Int × Int × Int) : Option (List Int) :=
  bnd (iMin (iMax x.2.2 (0 : Int)) (1024 : Int)) fun b0 =>
  jn (α := ((List Int) × Int)) (ρ := (List Int)) (loopLim (σ := ((List Int) × Int × Int × Int × Int)) (α := ((List Int) × Int) ⊕ (List Int)) (fun s1 =>
    if (bLt (s1.1.length : Int) s1.2.2.2.1) then
      bnd (((List.replicate 2 (0 : Int)).set 0 s1.2.2.1).set 1 (iConv .u64 s1.2.2.2.2)) fun b3 =>
      Option.bind (sh_passkeyref1_Words b3) fun r4 =>
      Option.bind (sh_passkeyref1_Mac (s1.2.1, (5 : Int), r4)) fun r5 =>
      bnd ((List.replicate 1 (0 : Int)).set 0 r5) fun b6 =>
      Option.bind (sh_passkeyref1_Words b6) fun r7 =>
      reqP ((s1.1.length + r7.length) * 1 ≤ 140737488355328) <|
      bnd (s1.1 ++ r7) fun b8 =>
      bnd (iAdd .i64 s1.2.2.2.2 (1 : Int)) fun b9 =>
      some (.inl (b8, s1.2.1, s1.2.2.1, s1.2.2.2.1, b9))
    else
      some (.inr (.inl (s1.1, s1.2.2.2.1)))
  ) (([] : List Int), x.1, x.2.1, b0, (0 : Int))) fun j2 =>
  reqP (0 ≤ j2.2 ∧ j2.2 ≤ (j2.1.length : Int)) <|
  some ((j2.1.drop (0 + 0)).take (j2.2.toNat - 0))

def sh_passkeybase_ID (x : Int) : Option (List Int) :=
  Option.bind (sh_passkeyref3_Stream ((iAdd .u64 (iConv .u64 (iAnd .i64 x (7 : Int))) (1 : Int)), (5 : Int), (176 : Int))) fun r0 =>
  some r0

def sh_passkeylaw14_made (x : Int × Int) : Option (Int × Int × Int × Int × Int × (List Int) × Int × Int) :=
  jn (α := (Int × Int × Int × Int × Int × Int × Int × Int × Int × Int × Int × Int × Int × Int × Int × Int)) (ρ := (Int × Int × Int × Int × Int × (List Int) × Int × Int)) (
    if (bNe (iAnd .i64 (iOr .i64 (iAnd .i64 x.1 (5 : Int)) (iMul .i64 (iAnd .i64 x.1 (8 : Int)) (iAnd .i64 (iShr .i64 x.1 (4 : Int)) (1 : Int)))) (8 : Int)) (0 : Int)) then
      bnd (iOr .i64 (iOr .i64 (iAnd .i64 x.1 (5 : Int)) (iMul .i64 (iAnd .i64 x.1 (8 : Int)) (iAnd .i64 (iShr .i64 x.1 (4 : Int)) (1 : Int)))) (iAnd .i64 x.1 (16 : Int))) fun b1 =>
      some (.inl ((0 : Int), (0 : Int), (0 : Int), (0 : Int), (0 : Int), (0 : Int), (0 : Int), x.2, b1, (iRem .i64 (iShr .i64 x.1 (5 : Int)) (17 : Int)), (iAnd .i64 (iShr .i64 x.1 (10 : Int)) (15 : Int)), (0 : Int), (0 : Int), (0 : Int), x.1, x.2))
    else
      some (.inl ((0 : Int), (0 : Int), (0 : Int), (0 : Int), (0 : Int), (0 : Int), (0 : Int), x.2, (iOr .i64 (iAnd .i64 x.1 (5 : Int)) (iMul .i64 (iAnd .i64 x.1 (8 : Int)) (iAnd .i64 (iShr .i64 x.1 (4 : Int)) (1 : Int)))), (iRem .i64 (iShr .i64 x.1 (5 : Int)) (17 : Int)), (iAnd .i64 (iShr .i64 x.1 (10 : Int)) (15 : Int)), (0 : Int), (0 : Int), (0 : Int), x.1, x.2))
  ) fun j0 =>
  jn (α := (Int × Int × Int × Int × Int × Int × Int × Int × Int × Int × Int × Int × Int × Int × (List Int) × Int)) (ρ := (Int × Int × Int × Int × Int × (List Int) × Int × Int)) (
    if (bEq (iAnd .i64 (iShr .i64 j0.2.2.2.2.2.2.2.2.2.2.2.2.2.2.1 (14 : Int)) (1 : Int)) (1 : Int)) then
      bnd (iOr .i64 j0.2.2.2.2.2.2.2.2.1 (64 : Int)) fun b3 =>
      Option.bind (sh_passkeybase_ID (iShr .i64 j0.2.2.2.2.2.2.2.2.2.2.2.2.2.2.1 (17 : Int))) fun r4 =>
      bnd (iConv .u64 (iAnd .i64 (iShr .i64 j0.2.2.2.2.2.2.2.2.2.2.2.2.2.2.1 (15 : Int)) (3 : Int))) fun b5 =>
      some (.inl (j0.1, j0.2.1, j0.2.2.1, j0.2.2.2.1, j0.2.2.2.2.1, j0.2.2.2.2.2.1, j0.2.2.2.2.2.2.1, j0.2.2.2.2.2.2.2.1, b3, j0.2.2.2.2.2.2.2.2.2.1, j0.2.2.2.2.2.2.2.2.2.2.1, b5, (iAnd .i64 (iShr .i64 j0.2.2.2.2.2.2.2.2.2.2.2.2.2.2.1 (15 : Int)) (3 : Int)), (iAdd .u64 j0.2.2.2.2.2.2.2.2.2.2.2.2.2.2.2 (1 : Int)), r4, j0.2.2.2.2.2.2.2.2.2.2.2.2.2.2.1))
    else
      some (.inl (j0.1, j0.2.1, j0.2.2.1, j0.2.2.2.1, j0.2.2.2.2.1, j0.2.2.2.2.2.1, j0.2.2.2.2.2.2.1, j0.2.2.2.2.2.2.2.1, j0.2.2.2.2.2.2.2.2.1, j0.2.2.2.2.2.2.2.2.2.1, j0.2.2.2.2.2.2.2.2.2.2.1, j0.2.2.2.2.2.2.2.2.2.2.2.1, j0.2.2.2.2.2.2.2.2.2.2.2.2.1, j0.2.2.2.2.2.2.2.2.2.2.2.2.2.1, ([] : List Int), j0.2.2.2.2.2.2.2.2.2.2.2.2.2.2.1))
  ) fun j2 =>
  bnd (bEq (iAnd .i64 (iShr .i64 j2.2.2.2.2.2.2.2.2.2.2.2.2.2.2.2 (20 : Int)) (31 : Int)) (0 : Int)) fun b6 =>
  if b6 then
    reqP (0 ≤ (iConv .u64 (iAnd .i64 (iShr .i64 j2.2.2.2.2.2.2.2.2.2.2.2.2.2.2.2 (3 : Int)) (7 : Int)))) <|
    bnd (iXor .i64 j2.2.2.2.2.2.2.2.2.1 (iShl .i64 (1 : Int) (iConv .u64 (iAnd .i64 (iShr .i64 j2.2.2.2.2.2.2.2.2.2.2.2.2.2.2.2 (3 : Int)) (7 : Int))))) fun b7 =>
    some (j2.2.2.2.2.2.2.2.1, b7, j2.2.2.2.2.2.2.2.2.2.1, j2.2.2.2.2.2.2.2.2.2.2.1, j2.2.2.2.2.2.2.2.2.2.2.2.1, j2.2.2.2.2.2.2.2.2.2.2.2.2.2.2.1, j2.2.2.2.2.2.2.2.2.2.2.2.2.1, j2.2.2.2.2.2.2.2.2.2.2.2.2.2.1)
  else
    bnd (bEq (iAnd .i64 (iShr .i64 j2.2.2.2.2.2.2.2.2.2.2.2.2.2.2.2 (20 : Int)) (31 : Int)) (1 : Int)) fun b8 =>
    if b8 then
      bnd (iSub .i64 (iAnd .i64 (iShr .i64 j2.2.2.2.2.2.2.2.2.2.2.2.2.2.2.2 (3 : Int)) (31 : Int)) (2 : Int)) fun b9 =>
      some (j2.2.2.2.2.2.2.2.1, j2.2.2.2.2.2.2.2.2.1, b9, j2.2.2.2.2.2.2.2.2.2.2.1, j2.2.2.2.2.2.2.2.2.2.2.2.1, j2.2.2.2.2.2.2.2.2.2.2.2.2.2.2.1, j2.2.2.2.2.2.2.2.2.2.2.2.2.1, j2.2.2.2.2.2.2.2.2.2.2.2.2.2.1)
    else
      bnd (bEq (iAnd .i64 (iShr .i64 j2.2.2.2.2.2.2.2.2.2.2.2.2.2.2.2 (20 : Int)) (31 : Int)) (2 : Int)) fun b10 =>
      if b10 then
        bnd (iSub .i64 (iAnd .i64 (iShr .i64 j2.2.2.2.2.2.2.2.2.2.2.2.2.2.2.2 (3 : Int)) (31 : Int)) (2 : Int)) fun b11 =>
        some (j2.2.2.2.2.2.2.2.1, j2.2.2.2.2.2.2.2.2.1, j2.2.2.2.2.2.2.2.2.2.1, b11, j2.2.2.2.2.2.2.2.2.2.2.2.1, j2.2.2.2.2.2.2.2.2.2.2.2.2.2.2.1, j2.2.2.2.2.2.2.2.2.2.2.2.2.1, j2.2.2.2.2.2.2.2.2.2.2.2.2.2.1)
      else
        bnd (bEq (iAnd .i64 (iShr .i64 j2.2.2.2.2.2.2.2.2.2.2.2.2.2.2.2 (20 : Int)) (31 : Int)) (3 : Int)) fun b12 =>
        if b12 then
          bnd (5 : Int) fun b13 =>
          some (j2.2.2.2.2.2.2.2.1, j2.2.2.2.2.2.2.2.2.1, j2.2.2.2.2.2.2.2.2.2.1, j2.2.2.2.2.2.2.2.2.2.2.1, b13, j2.2.2.2.2.2.2.2.2.2.2.2.2.2.2.1, j2.2.2.2.2.2.2.2.2.2.2.2.2.1, j2.2.2.2.2.2.2.2.2.2.2.2.2.2.1)
        else
          bnd (bEq (iAnd .i64 (iShr .i64 j2.2.2.2.2.2.2.2.2.2.2.2.2.2.2.2 (20 : Int)) (31 : Int)) (4 : Int)) fun b14 =>
          if b14 then
            Option.bind (sh_passkeybase_ID j2.2.2.2.2.2.2.2.2.2.2.2.2.2.2.2) fun r15 =>
            reqP (0 ≤ (iRem .i64 (iAnd .i64 (iShr .i64 j2.2.2.2.2.2.2.2.2.2.2.2.2.2.2.2 (3 : Int)) (255 : Int)) (177 : Int)) ∧ (iRem .i64 (iAnd .i64 (iShr .i64 j2.2.2.2.2.2.2.2.2.2.2.2.2.2.2.2 (3 : Int)) (255 : Int)) (177 : Int)) ≤ (r15.length : Int)) <|
            some (j2.2.2.2.2.2.2.2.1, j2.2.2.2.2.2.2.2.2.1, j2.2.2.2.2.2.2.2.2.2.1, j2.2.2.2.2.2.2.2.2.2.2.1, j2.2.2.2.2.2.2.2.2.2.2.2.1, ((r15.drop (0 + 0)).take ((iRem .i64 (iAnd .i64 (iShr .i64 j2.2.2.2.2.2.2.2.2.2.2.2.2.2.2.2 (3 : Int)) (255 : Int)) (177 : Int)).toNat - 0)), j2.2.2.2.2.2.2.2.2.2.2.2.2.1, j2.2.2.2.2.2.2.2.2.2.2.2.2.2.1)
          else
            bnd (bEq (iAnd .i64 (iShr .i64 j2.2.2.2.2.2.2.2.2.2.2.2.2.2.2.2 (20 : Int)) (31 : Int)) (5 : Int)) fun b16 =>
            if b16 then
              bnd (iSub .i64 (iAnd .i64 (iShr .i64 j2.2.2.2.2.2.2.2.2.2.2.2.2.2.2.2 (3 : Int)) (7 : Int)) (1 : Int)) fun b17 =>
              some (j2.2.2.2.2.2.2.2.1, j2.2.2.2.2.2.2.2.2.1, j2.2.2.2.2.2.2.2.2.2.1, j2.2.2.2.2.2.2.2.2.2.2.1, j2.2.2.2.2.2.2.2.2.2.2.2.1, j2.2.2.2.2.2.2.2.2.2.2.2.2.2.2.1, b17, j2.2.2.2.2.2.2.2.2.2.2.2.2.2.1)
            else
              some (j2.2.2.2.2.2.2.2.1, j2.2.2.2.2.2.2.2.2.1, j2.2.2.2.2.2.2.2.2.2.1, j2.2.2.2.2.2.2.2.2.2.2.1, j2.2.2.2.2.2.2.2.2.2.2.2.1, j2.2.2.2.2.2.2.2.2.2.2.2.2.2.2.1, j2.2.2.2.2.2.2.2.2.2.2.2.2.1, j2.2.2.2.2.2.2.2.2.2.2.2.2.2.1)

def sh_passkeyref14_within (x : Int × Int × Int) : Option Bool :=
  if (bGe x.1 x.2.1) then
    bnd (bLe x.1 x.2.2) fun b0 =>
    some b0
  else
    some false

def sh_passkeyref3_height (x : Int) : Option Bool :=
  if (bGe x (0 : Int)) then
    bnd (bLe x (4 : Int)) fun b0 =>
    some b0
  else
    some false

def sh_passkeyref3_EncodeKey (x : (Int × Int)) : Option ((List Int) × Int) :=
  Option.bind (sh_passkeyref3_height x.1) fun r0 =>
  if (!r0) then
    some (([] : List Int), (9 : Int))
  else
    bnd ((List.replicate 1 (0 : Int)).set 0 (iConv .u8 x.1)) fun b1 =>
    bnd ((List.replicate 1 (0 : Int)).set 0 x.2) fun b2 =>
    Option.bind (sh_passkeyref1_Words b2) fun r3 =>
    reqP ((b1.length + r3.length) * 1 ≤ 140737488355328) <|
    bnd (b1 ++ r3) fun b4 =>
    some (b4, (0 : Int))

def sh_passkeyref14_ValidateData (x : (Int × Int × Int × Int × Int × (List Int) × Int × Int)) : Option Int :=
  jn (α := (Int × Int × Int × Int × Int × (List Int) × Int × Int)) (ρ := Int) (
    if (bNe (iAndNot .i64 x.2.1 (93 : Int)) (0 : Int)) then
      some (.inr (9 : Int))
    else
      Option.bind (sh_passkeyref14_within (x.2.2.1, (0 : Int), (16 : Int))) fun r1 =>
      if (!r1) then
        some (.inr (9 : Int))
      else
        Option.bind (sh_passkeyref14_within (x.2.2.2.1, (0 : Int), (15 : Int))) fun r2 =>
        if (!r2) then
          some (.inr (9 : Int))
        else
          some (.inl (x.1, x.2.1, x.2.2.1, x.2.2.2.1, x.2.2.2.2.1, x.2.2.2.2.2.1, x.2.2.2.2.2.2.1, x.2.2.2.2.2.2.2))
  ) fun j0 =>
  jn (α := (Int × Int × Int × Int × Int × (List Int) × Int × Int)) (ρ := Int) (
    if (bNe (iAnd .i64 j0.2.1 (16 : Int)) (0 : Int)) then
      if (bEq (iAnd .i64 j0.2.1 (8 : Int)) (0 : Int)) then
        some (.inr (18 : Int))
      else
        some (.inl (j0.1, j0.2.1, j0.2.2.1, j0.2.2.2.1, j0.2.2.2.2.1, j0.2.2.2.2.2.1, j0.2.2.2.2.2.2.1, j0.2.2.2.2.2.2.2))
    else
      some (.inl (j0.1, j0.2.1, j0.2.2.1, j0.2.2.2.1, j0.2.2.2.2.1, j0.2.2.2.2.2.1, j0.2.2.2.2.2.2.1, j0.2.2.2.2.2.2.2))
  ) fun j3 =>
  if (bEq (iAnd .i64 j3.2.1 (64 : Int)) (0 : Int)) then
    if (bNe j3.2.2.2.2.1 (0 : Int)) then
      some (4 : Int)
    else
      if (bGt (j3.2.2.2.2.2.1.length : Int) (0 : Int)) then
        some (4 : Int)
      else
        if (!((bEq j3.2.2.2.2.2.2.1 (0 : Int)) && ((bEq j3.2.2.2.2.2.2.2 (0 : Int)) && true))) then
          some (4 : Int)
        else
          some (0 : Int)
  else
    if (bNe (j3.2.2.2.2.2.1.length : Int) (176 : Int)) then
      some (4 : Int)
    else
      Option.bind (sh_passkeyref3_EncodeKey (j3.2.2.2.2.2.2.1, j3.2.2.2.2.2.2.2)) fun r4 =>
      some r4.2

def sh_passkeyref14_EncodeData (x : (Int × Int × Int × Int × Int × (List Int) × Int × Int)) : Option ((List Int) × Int) :=
  Option.bind (sh_passkeyref14_ValidateData (x.1, (x.2.1, (x.2.2.1, (x.2.2.2.1, (x.2.2.2.2.1, (x.2.2.2.2.2.1, (x.2.2.2.2.2.2.1, x.2.2.2.2.2.2.2)))))))) fun r0 =>
  if (bNe r0 (0 : Int)) then
    some (([] : List Int), r0)
  else
    bnd ((List.replicate 1 (0 : Int)).set 0 x.1) fun b1 =>
    Option.bind (sh_passkeyref1_Words b1) fun r2 =>
    bnd ((((List.replicate 3 (0 : Int)).set 0 (iConv .u8 x.2.1)).set 1 (iConv .u8 x.2.2.1)).set 2 (iConv .u8 x.2.2.2.1)) fun b3 =>
    reqP ((r2.length + b3.length) * 1 ≤ 140737488355328) <|
    bnd (r2 ++ b3) fun b4 =>
    jn (α := (List Int)) (ρ := ((List Int) × Int)) (
      if (bNe (iAnd .i64 x.2.1 (64 : Int)) (0 : Int)) then
        Option.bind (sh_passkeyref3_EncodeKey (x.2.2.2.2.2.2.1, x.2.2.2.2.2.2.2)) fun r6 =>
        bnd ((List.replicate 1 (0 : Int)).set 0 x.2.2.2.2.1) fun b7 =>
        Option.bind (sh_passkeyref1_Words b7) fun r8 =>
        reqP ((b4.length + r8.length) * 1 ≤ 140737488355328) <|
        bnd (b4 ++ r8) fun b9 =>
        reqP ((b9.length + x.2.2.2.2.2.1.length) * 1 ≤ 140737488355328) <|
        bnd (b9 ++ x.2.2.2.2.2.1) fun b10 =>
        reqP ((b10.length + r6.1.length) * 1 ≤ 140737488355328) <|
        bnd (b10 ++ r6.1) fun b11 =>
        some (.inl b11)
      else
        some (.inl b4)
    ) fun j5 =>
    some (j5, (0 : Int))

def sh_slices_Clone___byte_byte_ (x : (List Int)) : Option ((List Int)) :=
  reqP (x.length * 1 ≤ 140737488355328) <|
  some x

def sh_authdata_word (x : (List Int)) : Option Int :=
  reqP (0 ≤ (8 : Int) ∧ (8 : Int) ≤ (x.length : Int)) <|
  jn (α := Int) (ρ := Int) (loopLim (σ := (Int × (List Int) × Int × Int)) (α := Int ⊕ Int) (fun s0 =>
    if (bLt s0.2.2.2 s0.2.2.1) then
      atL s0.2.1 s0.2.2.2 fun y2 =>
      bnd (iOr .u64 (iShl .u64 s0.1 (8 : Int)) (iConv .u64 y2)) fun b3 =>
      bnd (iAdd .i64 s0.2.2.2 (1 : Int)) fun b4 =>
      some (.inl (b3, s0.2.1, s0.2.2.1, b4))
    else
      some (.inr (.inl s0.1))
  ) ((0 : Int), (x.take (8 : Int).toNat), ((x.take (8 : Int).toNat).length : Int), (0 : Int))) fun j1 =>
  some j1

def sh_treekey_words (x : (List Int) × Int) : Option (List Int) :=
  jn (α := (List Int)) (ρ := (List Int)) (loopLim (σ := ((List Int) × (List Int) × Int × Int)) (α := (List Int) ⊕ (List Int)) (fun s0 =>
    if (bLt s0.2.2.2 s0.2.2.1) then
      reqP (0 ≤ (iMul .i64 (8 : Int) s0.2.2.2) ∧ (iMul .i64 (8 : Int) s0.2.2.2) ≤ (iAdd .i64 (iMul .i64 (8 : Int) s0.2.2.2) (8 : Int)) ∧ (iAdd .i64 (iMul .i64 (8 : Int) s0.2.2.2) (8 : Int)) ≤ (s0.2.1.length : Int)) <|
      jn (α := ((List Int) × (List Int) × Int × Int × Int)) (ρ := (((List Int) × (List Int) × Int × Int) ⊕ ((List Int) ⊕ (List Int)))) (loopLim (σ := ((List Int) × (List Int) × Int × Int × Int × (List Int) × Int × Int)) (α := ((List Int) × (List Int) × Int × Int × Int) ⊕ (((List Int) × (List Int) × Int × Int) ⊕ ((List Int) ⊕ (List Int)))) (fun s2 =>
        if (bLt s2.2.2.2.2.2.2.2 s2.2.2.2.2.2.2.1) then
          atL s2.2.2.2.2.2.1 s2.2.2.2.2.2.2.2 fun y4 =>
          bnd (iOr .u64 (iShl .u64 s2.2.2.1 (8 : Int)) (iConv .u64 y4)) fun b5 =>
          bnd (iAdd .i64 s2.2.2.2.2.2.2.2 (1 : Int)) fun b6 =>
          some (.inl (s2.1, s2.2.1, b5, s2.2.2.2.1, s2.2.2.2.2.1, s2.2.2.2.2.2.1, s2.2.2.2.2.2.2.1, b6))
        else
          some (.inr (.inl (s2.1, s2.2.1, s2.2.2.1, s2.2.2.2.1, s2.2.2.2.2.1)))
      ) (s0.1, s0.2.1, (0 : Int), s0.2.2.1, s0.2.2.2, (part s0.2.1 (iMul .i64 (8 : Int) s0.2.2.2) (iAdd .i64 (iMul .i64 (8 : Int) s0.2.2.2) (8 : Int))), ((part s0.2.1 (iMul .i64 (8 : Int) s0.2.2.2) (iAdd .i64 (iMul .i64 (8 : Int) s0.2.2.2) (8 : Int))).length : Int), (0 : Int))) fun j3 =>
      bnd ((List.replicate 1 (0 : Int)).set 0 j3.2.2.1) fun b7 =>
      reqP ((j3.1.length + b7.length) * 8 ≤ 140737488355328) <|
      bnd (j3.1 ++ b7) fun b8 =>
      bnd (iAdd .i64 j3.2.2.2.2 (1 : Int)) fun b9 =>
      some (.inl (b8, j3.2.1, j3.2.2.2.1, b9))
    else
      some (.inr (.inl s0.1))
  ) (([] : List Int), x.1, x.2, (0 : Int))) fun j1 =>
  some j1

def sh_treekey_DecodeKey (x : (List Int)) : Option (Int × Int × Int) :=
  jn (α := (Int × Int × (List Int))) (ρ := (Int × Int × Int)) (
    if (bNe (x.length : Int) (9 : Int)) then
      some (.inr ((0 : Int), (0 : Int), (2 : Int)))
    else
      atL x (0 : Int) fun y1 =>
      Option.bind (sh_treekey_tall (iConv .i64 y1)) fun r2 =>
      if (!r2) then
        some (.inr ((0 : Int), (0 : Int), (2 : Int)))
      else
        some (.inl ((0 : Int), (0 : Int), x))
  ) fun j0 =>
  atL j0.2.2 (0 : Int) fun y3 =>
  reqP (0 ≤ (1 : Int) ∧ (1 : Int) ≤ (j0.2.2.length : Int)) <|
  Option.bind (sh_treekey_words ((j0.2.2.drop (1 : Int).toNat), (1 : Int))) fun r4 =>
  reqP (0 ≤ (0 : Int) ∧ (0 : Int) < (r4.length : Int)) <|
  some ((iConv .i64 y3), (r4.getD (0 : Int).toNat (0 : Int)), (0 : Int))

def sh_authdata_Decode (x : (List Int)) : Option (Int × Int × Int × Int × Int × (List Int) × Int × Int × Int) :=
  if (bLt (x.length : Int) (11 : Int)) then
    some ((0 : Int), (0 : Int), (0 : Int), (0 : Int), (0 : Int), ([] : List Int), (0 : Int), (0 : Int), (2 : Int))
  else
    Option.bind (sh_authdata_word x) fun r0 =>
    atL x (8 : Int) fun y1 =>
    atL x (9 : Int) fun y2 =>
    atL x (10 : Int) fun y3 =>
    reqP (0 ≤ (11 : Int) ∧ (11 : Int) ≤ (x.length : Int)) <|
    jn (α := (Int × Int × Int × Int × Int × Int × Int × Int × Int × Int × Int × Int × Int × Int × (List Int) × (List Int))) (ρ := (Int × Int × Int × Int × Int × (List Int) × Int × Int × Int)) (
      if (bNe (iAnd .i64 (iConv .i64 y1) (64 : Int)) (0 : Int)) then
        if (bLt ((x.drop (11 : Int).toNat).length : Int) (184 : Int)) then
          some (.inr ((0 : Int), (0 : Int), (0 : Int), (0 : Int), (0 : Int), ([] : List Int), (0 : Int), (0 : Int), (2 : Int)))
        else
          Option.bind (sh_authdata_word (x.drop (11 : Int).toNat)) fun r5 =>
          reqP (0 ≤ (8 : Int) ∧ (8 : Int) ≤ (184 : Int) ∧ (184 : Int) ≤ ((x.drop (11 : Int).toNat).length : Int)) <|
          Option.bind (sh_slices_Clone___byte_byte_ (part (x.drop (11 : Int).toNat) (8 : Int) (184 : Int))) fun r6 =>
          reqP (0 ≤ (184 : Int) ∧ (184 : Int) ≤ ((x.drop (11 : Int).toNat).length : Int)) <|
          Option.bind (sh_treekey_DecodeKey ((x.drop (11 : Int).toNat).drop (184 : Int).toNat)) fun r7 =>
          if (bNe r7.2.2 (0 : Int)) then
            some (.inr ((0 : Int), (0 : Int), (0 : Int), (0 : Int), (0 : Int), ([] : List Int), (0 : Int), (0 : Int), r7.2.2))
          else
            some (.inl ((0 : Int), (0 : Int), (0 : Int), (0 : Int), (0 : Int), (0 : Int), (0 : Int), r0, (iConv .i64 y1), (iConv .i64 y2), (iConv .i64 y3), r5, r7.1, r7.2.1, r6, ([] : List Int)))
      else
        some (.inl ((0 : Int), (0 : Int), (0 : Int), (0 : Int), (0 : Int), (0 : Int), (0 : Int), r0, (iConv .i64 y1), (iConv .i64 y2), (iConv .i64 y3), (0 : Int), (0 : Int), (0 : Int), ([] : List Int), (x.drop (11 : Int).toNat)))
    ) fun j4 =>
    jn (α := (Int × Int × Int × Int × Int × Int × Int × Int × Int × Int × Int × Int × Int × Int × (List Int))) (ρ := (Int × Int × Int × Int × Int × (List Int) × Int × Int × Int)) (
      if (bGt (j4.2.2.2.2.2.2.2.2.2.2.2.2.2.2.2.length : Int) (0 : Int)) then
        some (.inr ((0 : Int), (0 : Int), (0 : Int), (0 : Int), (0 : Int), ([] : List Int), (0 : Int), (0 : Int), (2 : Int)))
      else
        Option.bind (sh_authdata_Validate (j4.2.2.2.2.2.2.2.1, (j4.2.2.2.2.2.2.2.2.1, (j4.2.2.2.2.2.2.2.2.2.1, (j4.2.2.2.2.2.2.2.2.2.2.1, (j4.2.2.2.2.2.2.2.2.2.2.2.1, (j4.2.2.2.2.2.2.2.2.2.2.2.2.2.2.1, (j4.2.2.2.2.2.2.2.2.2.2.2.2.1, j4.2.2.2.2.2.2.2.2.2.2.2.2.2.1)))))))) fun r9 =>
        if (bNe r9 (0 : Int)) then
          some (.inr ((0 : Int), (0 : Int), (0 : Int), (0 : Int), (0 : Int), ([] : List Int), (0 : Int), (0 : Int), (2 : Int)))
        else
          some (.inl (j4.1, j4.2.1, j4.2.2.1, j4.2.2.2.1, j4.2.2.2.2.1, j4.2.2.2.2.2.1, j4.2.2.2.2.2.2.1, j4.2.2.2.2.2.2.2.1, j4.2.2.2.2.2.2.2.2.1, j4.2.2.2.2.2.2.2.2.2.1, j4.2.2.2.2.2.2.2.2.2.2.1, j4.2.2.2.2.2.2.2.2.2.2.2.1, j4.2.2.2.2.2.2.2.2.2.2.2.2.1, j4.2.2.2.2.2.2.2.2.2.2.2.2.2.1, j4.2.2.2.2.2.2.2.2.2.2.2.2.2.2.1))
    ) fun j8 =>
    some (j8.2.2.2.2.2.2.2.1, j8.2.2.2.2.2.2.2.2.1, j8.2.2.2.2.2.2.2.2.2.1, j8.2.2.2.2.2.2.2.2.2.2.1, j8.2.2.2.2.2.2.2.2.2.2.2.1, j8.2.2.2.2.2.2.2.2.2.2.2.2.2.2, j8.2.2.2.2.2.2.2.2.2.2.2.2.1, j8.2.2.2.2.2.2.2.2.2.2.2.2.2.1, (0 : Int))

def sh_passkeylaw14_AuthdataUnique (x : (List Int) × Int × Int × Int) : Option Bool :=
  if (bGt (x.1.length : Int) (400 : Int)) then
    Option.bind (sh_passkeylaw14_awake ()) fun r0 =>
    some r0
  else
    Option.bind (sh_passkeylaw14_made (x.2.1, (5 : Int))) fun r1 =>
    Option.bind (sh_passkeyref14_EncodeData (r1.1, (r1.2.1, (r1.2.2.1, (r1.2.2.2.1, (r1.2.2.2.2.1, (r1.2.2.2.2.2.1, (r1.2.2.2.2.2.2.1, r1.2.2.2.2.2.2.2)))))))) fun r2 =>
    jn (α := ((List Int) × (List Int))) (ρ := Bool) (
      if (bGt (r2.1.length : Int) (0 : Int)) then
        reqP ((r2.1.length : Int) ≠ 0) <|
        reqP (0 ≤ (iRem .i64 (iAnd .i64 x.2.2.1 (65535 : Int)) (r2.1.length : Int)) ∧ (iRem .i64 (iAnd .i64 x.2.2.1 (65535 : Int)) (r2.1.length : Int)) < (r2.1.length : Int)) <|
        reqP (0 ≤ (iRem .i64 (iAnd .i64 x.2.2.1 (65535 : Int)) (r2.1.length : Int)) ∧ (iRem .i64 (iAnd .i64 x.2.2.1 (65535 : Int)) (r2.1.length : Int)) < (r2.1.length : Int)) <|
        bnd (r2.1.set (iRem .i64 (iAnd .i64 x.2.2.1 (65535 : Int)) (r2.1.length : Int)).toNat (iXor .u8 (r2.1.getD (iRem .i64 (iAnd .i64 x.2.2.1 (65535 : Int)) (r2.1.length : Int)).toNat (0 : Int)) x.2.2.2)) fun b4 =>
        some (.inl (b4, x.1))
      else
        some (.inl (r2.1, x.1))
    ) fun j3 =>
    jn (α := (Unit)) (ρ := Bool) (loopLim (σ := ((List Int) × (List Int) × Int)) (α := (Unit) ⊕ Bool) (fun s5 =>
      if (bLt s5.2.2 (2 : Int)) then
        jn (α := ((List Int) × (List Int) × Int)) (ρ := (((List Int) × (List Int) × Int) ⊕ ((Unit) ⊕ Bool))) (
          bnd (((List.replicate 2 ([] : List Int)).set 0 s5.2.1).set 1 s5.1) fun b8 =>
          reqP (0 ≤ s5.2.2 ∧ s5.2.2 < (b8.length : Int)) <|
          Option.bind (sh_authdata_Decode (b8.getD s5.2.2.toNat ([] : List Int))) fun r9 =>
          if (bNe r9.2.2.2.2.2.2.2.2 (0 : Int)) then
            some (.inl (s5.1, s5.2.1, s5.2.2))
          else
            Option.bind (sh_authdata_Encode (r9.1, (r9.2.1, (r9.2.2.1, (r9.2.2.2.1, (r9.2.2.2.2.1, (r9.2.2.2.2.2.1, (r9.2.2.2.2.2.2.1, r9.2.2.2.2.2.2.2.1)))))))) fun r10 =>
            if (bNe r10.2 (0 : Int)) then
              some (.inr (.inr (.inr false)))
            else
              if (!(sEq (ofBytes r10.1) (ofBytes (b8.getD s5.2.2.toNat ([] : List Int))))) then
                some (.inr (.inr (.inr false)))
              else
                some (.inl (s5.1, s5.2.1, s5.2.2))
        ) fun j7 =>
        bnd (iAdd .i64 j7.2.2 (1 : Int)) fun b11 =>
        some (.inl (j7.1, j7.2.1, b11))
      else
        some (.inr (.inl ()))
    ) (j3.1, j3.2, (0 : Int))) fun j6 =>
    Option.bind (sh_passkeylaw14_awake ()) fun r12 =>
    some r12
end
end Go.Vm
