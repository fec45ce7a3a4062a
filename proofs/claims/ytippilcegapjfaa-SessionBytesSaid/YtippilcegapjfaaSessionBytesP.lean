/- What the functions compute. PRINTED by a program of this session's. -/
import Derived.Test.YtippilcegapjfaaV5
set_option linter.unusedVariables false
namespace Go.Vm
noncomputable section
def sh_digest_Words (x : (List Int)) : Option (List Int) :=
  jn (α := (List Int)) (ρ := (List Int)) (loopLim (σ := ((List Int) × (List Int) × Int × Int)) (α := (List Int) ⊕ (List Int)) (fun s0 =>
    if (bLt s0.2.2.2 s0.2.2.1) then
      atL s0.2.1 s0.2.2.2 fun y2 =>
      jn (α := ((List Int) × (List Int) × Int × Int)) (ρ := (((List Int) × (List Int) × Int × Int) ⊕ ((List Int) ⊕ (List Int)))) (loopLim (σ := ((List Int) × Int × (List Int) × Int × Int × Int)) (α := ((List Int) × (List Int) × Int × Int) ⊕ (((List Int) × (List Int) × Int × Int) ⊕ ((List Int) ⊕ (List Int)))) (fun s3 =>
        if (bLt s3.2.2.2.2.2 (8 : Int)) then
          reqP (0 ≤ (iSub .i64 (56 : Int) (iMul .i64 (8 : Int) s3.2.2.2.2.2))) <|
          bnd ((List.replicate 1 (0 : Int)).set 0 (iConv .u8 (iShr .u64 s3.2.1 (iSub .i64 (56 : Int) (iMul .i64 (8 : Int) s3.2.2.2.2.2))))) fun b5 =>
          reqP ((s3.1.length + b5.length) * 1 ≤ 140737488355328) <|
          bnd (s3.1 ++ b5) fun b6 =>
          bnd (iAdd .i64 s3.2.2.2.2.2 (1 : Int)) fun b7 =>
          some (.inl (b6, s3.2.1, s3.2.2.1, s3.2.2.2.1, s3.2.2.2.2.1, b7))
        else
          some (.inr (.inl (s3.1, s3.2.2.1, s3.2.2.2.1, s3.2.2.2.2.1)))
      ) (s0.1, y2, s0.2.1, s0.2.2.1, s0.2.2.2, (0 : Int))) fun j4 =>
      bnd (iAdd .i64 j4.2.2.2 (1 : Int)) fun b8 =>
      some (.inl (j4.1, j4.2.1, j4.2.2.1, b8))
    else
      some (.inr (.inl s0.1))
  ) (([] : List Int), x, (x.length : Int), (0 : Int))) fun j1 =>
  some j1

def sh_digest_little (x : (List Int)) : Option Int :=
  jn (α := Int) (ρ := Int) (loopLim (σ := (Int × (List Int) × Int × Int)) (α := Int ⊕ Int) (fun s0 =>
    if (bLt s0.2.2.2 s0.2.2.1) then
      atL s0.2.1 s0.2.2.2 fun y2 =>
      reqP (0 ≤ (iMul .i64 (8 : Int) s0.2.2.2)) <|
      bnd (iOr .u64 s0.1 (iShl .u64 (iConv .u64 y2) (iMul .i64 (8 : Int) s0.2.2.2))) fun b3 =>
      bnd (iAdd .i64 s0.2.2.2 (1 : Int)) fun b4 =>
      some (.inl (b3, s0.2.1, s0.2.2.1, b4))
    else
      some (.inr (.inl s0.1))
  ) ((0 : Int), x, (x.length : Int), (0 : Int))) fun j1 =>
  some j1

def sh_math_bits_RotateLeft64 (x : Int × Int) : Option Int :=
  bnd (iAnd .u64 (iConv .u64 x.2) (63 : Int)) fun b0 =>
  reqP (0 ≤ b0) <|
  reqP (0 ≤ (iSub .u64 (64 : Int) b0)) <|
  bnd (iOr .u64 (iShl .u64 x.1 b0) (iShr .u64 x.1 (iSub .u64 (64 : Int) b0))) fun b1 =>
  some b1

def sh___passkey_digest_state__round (x : Int × Int × Int × Int × Int) : Option (Int × Int × Int × Int) :=
  jn (α := (Int × Int × Int × Int)) (ρ := (Int × Int × Int × Int)) (loopLim (σ := (Int × Int × Int × Int × Int × Int)) (α := (Int × Int × Int × Int) ⊕ (Int × Int × Int × Int)) (fun s0 =>
    if (bLt s0.2.2.2.2.2 s0.2.2.2.2.1) then
      bnd (iAdd .u64 s0.1 s0.2.1) fun b2 =>
      Option.bind (sh_math_bits_RotateLeft64 (s0.2.1, (13 : Int))) fun r3 =>
      bnd (iXor .u64 r3 b2) fun b4 =>
      Option.bind (sh_math_bits_RotateLeft64 (b2, (32 : Int))) fun r5 =>
      bnd (iAdd .u64 s0.2.2.1 s0.2.2.2.1) fun b6 =>
      Option.bind (sh_math_bits_RotateLeft64 (s0.2.2.2.1, (16 : Int))) fun r7 =>
      bnd (iXor .u64 r7 b6) fun b8 =>
      bnd (iAdd .u64 r5 b8) fun b9 =>
      Option.bind (sh_math_bits_RotateLeft64 (b8, (21 : Int))) fun r10 =>
      bnd (iXor .u64 r10 b9) fun b11 =>
      bnd (iAdd .u64 b6 b4) fun b12 =>
      Option.bind (sh_math_bits_RotateLeft64 (b4, (17 : Int))) fun r13 =>
      bnd (iXor .u64 r13 b12) fun b14 =>
      Option.bind (sh_math_bits_RotateLeft64 (b12, (32 : Int))) fun r15 =>
      bnd (iAdd .i64 s0.2.2.2.2.2 (1 : Int)) fun b16 =>
      some (.inl (b9, b14, r15, b11, s0.2.2.2.2.1, b16))
    else
      some (.inr (.inl (s0.1, s0.2.1, s0.2.2.1, s0.2.2.2.1)))
  ) (x.1, x.2.1, x.2.2.1, x.2.2.2.1, x.2.2.2.2, (0 : Int))) fun j1 =>
  some (j1.1, j1.2.1, j1.2.2.1, j1.2.2.2)

def sh___passkey_digest_state__word (x : Int × Int × Int × Int × Int) : Option (Int × Int × Int × Int) :=
  bnd (iXor .u64 x.2.2.2.1 x.2.2.2.2) fun b0 =>
  Option.bind (sh___passkey_digest_state__round (x.1, x.2.1, x.2.2.1, b0, (2 : Int))) fun r1 =>
  bnd (iXor .u64 r1.1 x.2.2.2.2) fun b2 =>
  some (b2, r1.2.1, r1.2.2.1, r1.2.2.2)

def sh_digest_Sum (x : Int × Int × (List Int)) : Option Int :=
  bnd (iShl .u64 (iConv .u64 (x.2.2.length : Int)) (56 : Int)) fun b0 =>
  jn (α := (Int × Int × Int × Int × (List Int) × Int)) (ρ := Int) (loopLim (σ := (Int × Int × Int × Int × (List Int) × Int)) (α := (Int × Int × Int × Int × (List Int) × Int) ⊕ Int) (fun s1 =>
    if (bGe (s1.2.2.2.2.1.length : Int) (8 : Int)) then
      reqP (0 ≤ (8 : Int) ∧ (8 : Int) ≤ (s1.2.2.2.2.1.length : Int)) <|
      Option.bind (sh_digest_little (s1.2.2.2.2.1.take (8 : Int).toNat)) fun r3 =>
      Option.bind (sh___passkey_digest_state__word (s1.1, s1.2.1, s1.2.2.1, s1.2.2.2.1, r3)) fun r4 =>
      reqP (0 ≤ (8 : Int) ∧ (8 : Int) ≤ (s1.2.2.2.2.1.length : Int)) <|
      some (.inl (r4.1, r4.2.1, r4.2.2.1, r4.2.2.2, (s1.2.2.2.2.1.drop (8 : Int).toNat), s1.2.2.2.2.2))
    else
      some (.inr (.inl (s1.1, s1.2.1, s1.2.2.1, s1.2.2.2.1, s1.2.2.2.2.1, s1.2.2.2.2.2)))
  ) ((iXor .u64 x.1 (8317987319222330741 : Int)), (iXor .u64 x.2.1 (7237128888997146477 : Int)), (iXor .u64 x.1 (7816392313619706465 : Int)), (iXor .u64 x.2.1 (8387220255154660723 : Int)), x.2.2, b0)) fun j2 =>
  Option.bind (sh_digest_little j2.2.2.2.2.1) fun r5 =>
  Option.bind (sh___passkey_digest_state__word (j2.1, j2.2.1, j2.2.2.1, j2.2.2.2.1, (iOr .u64 j2.2.2.2.2.2 r5))) fun r6 =>
  bnd (iXor .u64 r6.2.2.1 (255 : Int)) fun b7 =>
  Option.bind (sh___passkey_digest_state__round (r6.1, r6.2.1, b7, r6.2.2.2, (4 : Int))) fun r8 =>
  bnd (iXor .u64 (iXor .u64 (iXor .u64 r8.1 r8.2.1) r8.2.2.1) r8.2.2.2) fun b9 =>
  some b9

def sh_passkeyref1_Words (x : (List Int)) : Option (List Int) :=
  jn (α := (List Int)) (ρ := (List Int)) (loopLim (σ := ((List Int) × (List Int) × Int)) (α := (List Int) ⊕ (List Int)) (fun s0 =>
    if (bLt s0.2.2 (s0.2.1.length : Int)) then
      jn (α := ((List Int) × (List Int) × Int)) (ρ := (((List Int) × (List Int) × Int) ⊕ ((List Int) ⊕ (List Int)))) (loopLim (σ := ((List Int) × (List Int) × Int × Int)) (α := ((List Int) × (List Int) × Int) ⊕ (((List Int) × (List Int) × Int) ⊕ ((List Int) ⊕ (List Int)))) (fun s2 =>
        if (bGe s2.2.2.2 (0 : Int)) then
          atL s2.2.1 s2.2.2.1 fun y4 =>
          reqP (0 ≤ (iConv .u64 (iMul .i64 (8 : Int) s2.2.2.2))) <|
          bnd ((List.replicate 1 (0 : Int)).set 0 (iConv .u8 (iShr .u64 y4 (iConv .u64 (iMul .i64 (8 : Int) s2.2.2.2))))) fun b5 =>
          reqP ((s2.1.length + b5.length) * 1 ≤ 140737488355328) <|
          bnd (s2.1 ++ b5) fun b6 =>
          bnd (iSub .i64 s2.2.2.2 (1 : Int)) fun b7 =>
          some (.inl (b6, s2.2.1, s2.2.2.1, b7))
        else
          some (.inr (.inl (s2.1, s2.2.1, s2.2.2.1)))
      ) (s0.1, s0.2.1, s0.2.2, (7 : Int))) fun j3 =>
      bnd (iAdd .i64 j3.2.2 (1 : Int)) fun b8 =>
      some (.inl (j3.1, j3.2.1, b8))
    else
      some (.inr (.inl s0.1))
  ) (([] : List Int), x, (0 : Int))) fun j1 =>
  some j1

def sh_passkeyref1_rotl (x : Int × Int) : Option Int :=
  reqP (0 ≤ x.2) <|
  reqP (0 ≤ (iSub .u64 (64 : Int) x.2)) <|
  bnd (iOr .u64 (iShl .u64 x.1 x.2) (iShr .u64 x.1 (iSub .u64 (64 : Int) x.2))) fun b0 =>
  some b0

def sh_passkeyref1_round (x : (Arr 4 Int)) : Option (Arr 4 Int) :=
  reqP (0 ≤ (0 : Int) ∧ (0 : Int) < 4) <|
  reqP (0 ≤ (1 : Int) ∧ (1 : Int) < 4) <|
  reqP (0 ≤ (0 : Int) ∧ (0 : Int) < 4) <|
  bnd (arrWr x (0 : Int) (iAdd .u64 (arrRd (0 : Int) x (0 : Int)) (arrRd (0 : Int) x (1 : Int)))) fun b0 =>
  reqP (0 ≤ (1 : Int) ∧ (1 : Int) < 4) <|
  Option.bind (sh_passkeyref1_rotl ((arrRd (0 : Int) b0 (1 : Int)), (13 : Int))) fun r1 =>
  reqP (0 ≤ (0 : Int) ∧ (0 : Int) < 4) <|
  reqP (0 ≤ (1 : Int) ∧ (1 : Int) < 4) <|
  bnd (arrWr b0 (1 : Int) (iXor .u64 r1 (arrRd (0 : Int) b0 (0 : Int)))) fun b2 =>
  reqP (0 ≤ (0 : Int) ∧ (0 : Int) < 4) <|
  Option.bind (sh_passkeyref1_rotl ((arrRd (0 : Int) b2 (0 : Int)), (32 : Int))) fun r3 =>
  reqP (0 ≤ (0 : Int) ∧ (0 : Int) < 4) <|
  bnd (arrWr b2 (0 : Int) r3) fun b4 =>
  reqP (0 ≤ (2 : Int) ∧ (2 : Int) < 4) <|
  reqP (0 ≤ (3 : Int) ∧ (3 : Int) < 4) <|
  reqP (0 ≤ (2 : Int) ∧ (2 : Int) < 4) <|
  bnd (arrWr b4 (2 : Int) (iAdd .u64 (arrRd (0 : Int) b4 (2 : Int)) (arrRd (0 : Int) b4 (3 : Int)))) fun b5 =>
  reqP (0 ≤ (3 : Int) ∧ (3 : Int) < 4) <|
  Option.bind (sh_passkeyref1_rotl ((arrRd (0 : Int) b5 (3 : Int)), (16 : Int))) fun r6 =>
  reqP (0 ≤ (2 : Int) ∧ (2 : Int) < 4) <|
  reqP (0 ≤ (3 : Int) ∧ (3 : Int) < 4) <|
  bnd (arrWr b5 (3 : Int) (iXor .u64 r6 (arrRd (0 : Int) b5 (2 : Int)))) fun b7 =>
  reqP (0 ≤ (0 : Int) ∧ (0 : Int) < 4) <|
  reqP (0 ≤ (3 : Int) ∧ (3 : Int) < 4) <|
  reqP (0 ≤ (0 : Int) ∧ (0 : Int) < 4) <|
  bnd (arrWr b7 (0 : Int) (iAdd .u64 (arrRd (0 : Int) b7 (0 : Int)) (arrRd (0 : Int) b7 (3 : Int)))) fun b8 =>
  reqP (0 ≤ (3 : Int) ∧ (3 : Int) < 4) <|
  Option.bind (sh_passkeyref1_rotl ((arrRd (0 : Int) b8 (3 : Int)), (21 : Int))) fun r9 =>
  reqP (0 ≤ (0 : Int) ∧ (0 : Int) < 4) <|
  reqP (0 ≤ (3 : Int) ∧ (3 : Int) < 4) <|
  bnd (arrWr b8 (3 : Int) (iXor .u64 r9 (arrRd (0 : Int) b8 (0 : Int)))) fun b10 =>
  reqP (0 ≤ (2 : Int) ∧ (2 : Int) < 4) <|
  reqP (0 ≤ (1 : Int) ∧ (1 : Int) < 4) <|
  reqP (0 ≤ (2 : Int) ∧ (2 : Int) < 4) <|
  bnd (arrWr b10 (2 : Int) (iAdd .u64 (arrRd (0 : Int) b10 (2 : Int)) (arrRd (0 : Int) b10 (1 : Int)))) fun b11 =>
  reqP (0 ≤ (1 : Int) ∧ (1 : Int) < 4) <|
  Option.bind (sh_passkeyref1_rotl ((arrRd (0 : Int) b11 (1 : Int)), (17 : Int))) fun r12 =>
  reqP (0 ≤ (2 : Int) ∧ (2 : Int) < 4) <|
  reqP (0 ≤ (1 : Int) ∧ (1 : Int) < 4) <|
  bnd (arrWr b11 (1 : Int) (iXor .u64 r12 (arrRd (0 : Int) b11 (2 : Int)))) fun b13 =>
  reqP (0 ≤ (2 : Int) ∧ (2 : Int) < 4) <|
  Option.bind (sh_passkeyref1_rotl ((arrRd (0 : Int) b13 (2 : Int)), (32 : Int))) fun r14 =>
  reqP (0 ≤ (2 : Int) ∧ (2 : Int) < 4) <|
  bnd (arrWr b13 (2 : Int) r14) fun b15 =>
  some b15

def sh_passkeyref1_Sum (x : Int × Int × (List Int)) : Option Int :=
  jn (α := (Arr 4 Int)) (ρ := Int) (loopLim (σ := ((Arr 4 Int) × (List Int) × Int)) (α := (Arr 4 Int) ⊕ Int) (fun s0 =>
    if (bLe s0.2.2 (s0.2.1.length : Int)) then
      jn (α := ((Arr 4 Int) × (List Int) × Int × Int)) (ρ := (((Arr 4 Int) × (List Int) × Int) ⊕ ((Arr 4 Int) ⊕ Int))) (loopLim (σ := ((Arr 4 Int) × (List Int) × Int × Int × Int)) (α := ((Arr 4 Int) × (List Int) × Int × Int) ⊕ (((Arr 4 Int) × (List Int) × Int) ⊕ ((Arr 4 Int) ⊕ Int))) (fun s2 =>
        if (bGe s2.2.2.2.2 (0 : Int)) then
          jn (α := ((Arr 4 Int) × (List Int) × Int × Int × Int)) (ρ := (((Arr 4 Int) × (List Int) × Int × Int × Int) ⊕ (((Arr 4 Int) × (List Int) × Int × Int) ⊕ (((Arr 4 Int) × (List Int) × Int) ⊕ ((Arr 4 Int) ⊕ Int))))) (
            jn (α := ((Arr 4 Int) × (List Int) × Int × Int × Int × Int)) (ρ := (((Arr 4 Int) × (List Int) × Int × Int × Int) ⊕ (((Arr 4 Int) × (List Int) × Int × Int × Int) ⊕ (((Arr 4 Int) × (List Int) × Int × Int) ⊕ (((Arr 4 Int) × (List Int) × Int) ⊕ ((Arr 4 Int) ⊕ Int)))))) (
              if (bLt (iAdd .i64 s2.2.2.1 s2.2.2.2.2) (s2.2.1.length : Int)) then
                atL s2.2.1 (iAdd .i64 s2.2.2.1 s2.2.2.2.2) fun y6 =>
                some (.inl (s2.1, s2.2.1, s2.2.2.1, s2.2.2.2.1, s2.2.2.2.2, y6))
              else
                if (bEq s2.2.2.2.2 (7 : Int)) then
                  bnd (iConv .u8 (s2.2.1.length : Int)) fun b7 =>
                  some (.inl (s2.1, s2.2.1, s2.2.2.1, s2.2.2.2.1, s2.2.2.2.2, b7))
                else
                  some (.inl (s2.1, s2.2.1, s2.2.2.1, s2.2.2.2.1, s2.2.2.2.2, (0 : Int)))
            ) fun j5 =>
            bnd (iOr .u64 (iShl .u64 j5.2.2.2.1 (8 : Int)) (iConv .u64 j5.2.2.2.2.2)) fun b8 =>
            some (.inl (j5.1, j5.2.1, j5.2.2.1, b8, j5.2.2.2.2.1))
          ) fun j4 =>
          bnd (iSub .i64 j4.2.2.2.2 (1 : Int)) fun b9 =>
          some (.inl (j4.1, j4.2.1, j4.2.2.1, j4.2.2.2.1, b9))
        else
          some (.inr (.inl (s2.1, s2.2.1, s2.2.2.1, s2.2.2.2.1)))
      ) (s0.1, s0.2.1, s0.2.2, (0 : Int), (7 : Int))) fun j3 =>
      reqP (0 ≤ (3 : Int) ∧ (3 : Int) < 4) <|
      reqP (0 ≤ (3 : Int) ∧ (3 : Int) < 4) <|
      bnd (arrWr j3.1 (3 : Int) (iXor .u64 (arrRd (0 : Int) j3.1 (3 : Int)) j3.2.2.2)) fun b10 =>
      Option.bind (sh_passkeyref1_round b10) fun r11 =>
      Option.bind (sh_passkeyref1_round r11) fun r12 =>
      reqP (0 ≤ (0 : Int) ∧ (0 : Int) < 4) <|
      reqP (0 ≤ (0 : Int) ∧ (0 : Int) < 4) <|
      bnd (arrWr r12 (0 : Int) (iXor .u64 (arrRd (0 : Int) r12 (0 : Int)) j3.2.2.2)) fun b13 =>
      bnd (iAdd .i64 j3.2.2.1 (8 : Int)) fun b14 =>
      some (.inl (b13, j3.2.1, b14))
    else
      some (.inr (.inl s0.1))
  ) ((⟨[(iXor .u64 x.1 (8317987319222330741 : Int)), (iXor .u64 x.2.1 (7237128888997146477 : Int)), (iXor .u64 x.1 (7816392313619706465 : Int)), (iXor .u64 x.2.1 (8387220255154660723 : Int))], rfl⟩ : Arr 4 Int), x.2.2, (0 : Int))) fun j1 =>
  reqP (0 ≤ (2 : Int) ∧ (2 : Int) < 4) <|
  reqP (0 ≤ (2 : Int) ∧ (2 : Int) < 4) <|
  bnd (arrWr j1 (2 : Int) (iXor .u64 (arrRd (0 : Int) j1 (2 : Int)) (255 : Int))) fun b15 =>
  Option.bind (sh_passkeyref1_round b15) fun r16 =>
  Option.bind (sh_passkeyref1_round r16) fun r17 =>
  Option.bind (sh_passkeyref1_round r17) fun r18 =>
  Option.bind (sh_passkeyref1_round r18) fun r19 =>
  reqP (0 ≤ (0 : Int) ∧ (0 : Int) < 4) <|
  reqP (0 ≤ (1 : Int) ∧ (1 : Int) < 4) <|
  reqP (0 ≤ (2 : Int) ∧ (2 : Int) < 4) <|
  reqP (0 ≤ (3 : Int) ∧ (3 : Int) < 4) <|
  bnd (iXor .u64 (iXor .u64 (iXor .u64 (arrRd (0 : Int) r19 (0 : Int)) (arrRd (0 : Int) r19 (1 : Int))) (arrRd (0 : Int) r19 (2 : Int))) (arrRd (0 : Int) r19 (3 : Int))) fun b20 =>
  some b20

def sh_digest_Mac (x : Int × Int × (List Int)) : Option Int :=
  Option.bind (sh_digest_Sum (x.1, (iAdd .u64 (1 : Int) (iConv .u64 x.2.1)), x.2.2)) fun r0 =>
  some r0

def sh_passkeyref1_Mac (x : Int × Int × (List Int)) : Option Int :=
  Option.bind (sh_passkeyref1_Sum (x.1, (iAdd .u64 (1 : Int) (iConv .u64 x.2.1)), x.2.2)) fun r0 =>
  some r0

def sh_slices_Clone___byte_byte_ (x : (List Int)) : Option ((List Int)) :=
  reqP (x.length * 1 ≤ 140737488355328) <|
  some x

def sh_session_New (x : Int) : Option (Int × Int × (List (Int × (List UInt8) × (List Int) × Int × Int × Int))) :=
  some (x, (0 : Int), ([] : List (Int × (List UInt8) × (List Int) × Int × Int × Int)))

def sh_session_bad (x : Int) : Option Bool :=
  if (bLt x (0 : Int)) then
    some true
  else
    bnd (bGt x (1099511627776 : Int)) fun b0 =>
    some b0

def sh_session_Expire_1 (x : (Int × (List UInt8) × (List Int) × Int × Int × Int) × Int) : Option Bool :=
  Option.bind (sh_session_bad x.2) fun r0 =>
  if (!r0) then
    bnd (bGt x.2 x.1.2.2.2.2.2) fun b1 =>
    some b1
  else
    some false

def sh_session_without (x : (Int × Int × List (Int × (List UInt8) × (List Int) × Int × Int × Int)) × Int) : Option (Int × Int × (List (Int × (List UInt8) × (List Int) × Int × Int × Int))) :=
  jn (α := (Int × Int × Int × Int × (List (Int × (List UInt8) × (List Int) × Int × Int × Int)))) (ρ := (Int × Int × (List (Int × (List UInt8) × (List Int) × Int × Int × Int)))) (loopLim (σ := (Int × Int × Int × Int × (List (Int × (List UInt8) × (List Int) × Int × Int × Int)) × Int × (List (Int × (List UInt8) × (List Int) × Int × Int × Int)) × Int × Int)) (α := (Int × Int × Int × Int × (List (Int × (List UInt8) × (List Int) × Int × Int × Int))) ⊕ (Int × Int × (List (Int × (List UInt8) × (List Int) × Int × Int × Int)))) (fun s0 =>
    if (bLt s0.2.2.2.2.2.2.2.2 s0.2.2.2.2.2.2.2.1) then
      atL s0.2.2.2.2.2.2.1 s0.2.2.2.2.2.2.2.2 fun y2 =>
      Option.bind (sh_session_Expire_1 ((y2.1, (y2.2.1, (y2.2.2.1, (y2.2.2.2.1, (y2.2.2.2.2.1, y2.2.2.2.2.2))))), s0.2.2.2.2.2.1)) fun r3 =>
      if (!r3) then
        bnd ((List.replicate 1 ((0 : Int), (([] : List UInt8), (([] : List Int), ((0 : Int), ((0 : Int), (0 : Int))))))).set 0 (y2.1, (y2.2.1, (y2.2.2.1, (y2.2.2.2.1, (y2.2.2.2.2.1, y2.2.2.2.2.2)))))) fun b4 =>
        reqP ((s0.2.2.2.2.1.length + b4.length) * 72 ≤ 140737488355328) <|
        bnd (s0.2.2.2.2.1 ++ b4) fun b5 =>
        bnd (iAdd .i64 s0.2.2.2.2.2.2.2.2 (1 : Int)) fun b6 =>
        some (.inl (s0.1, s0.2.1, s0.2.2.1, s0.2.2.2.1, b5, s0.2.2.2.2.2.1, s0.2.2.2.2.2.2.1, s0.2.2.2.2.2.2.2.1, b6))
      else
        bnd (iAdd .i64 s0.2.2.2.2.2.2.2.2 (1 : Int)) fun b7 =>
        some (.inl (s0.1, s0.2.1, s0.2.2.1, s0.2.2.2.1, s0.2.2.2.2.1, s0.2.2.2.2.2.1, s0.2.2.2.2.2.2.1, s0.2.2.2.2.2.2.2.1, b7))
    else
      some (.inr (.inl (s0.1, s0.2.1, s0.2.2.1, s0.2.2.2.1, s0.2.2.2.2.1)))
  ) ((0 : Int), (0 : Int), x.1.1, x.1.2.1, ([] : List (Int × (List UInt8) × (List Int) × Int × Int × Int)), x.2, x.1.2.2, (x.1.2.2.length : Int), (0 : Int))) fun j1 =>
  some (j1.2.2.1, j1.2.2.2.1, j1.2.2.2.2)

def sh_session_Expire (x : (Int × Int × List (Int × (List UInt8) × (List Int) × Int × Int × Int)) × Int) : Option (Int × Int × (List (Int × (List UInt8) × (List Int) × Int × Int × Int))) :=
  Option.bind (sh_session_without ((x.1.1, (x.1.2.1, x.1.2.2)), x.2)) fun r0 =>
  some (r0.1, r0.2.1, r0.2.2)

def sh_session_Bytes (x : (Int × Int × List (Int × (List UInt8) × (List Int) × Int × Int × Int)) × (Int × (List UInt8) × (List Int) × Int × Int × Int)) : Option (List Int) :=
  bnd (((List.replicate 2 (0 : Int)).set 0 (iConv .u64 x.2.1)).set 1 (iConv .u64 x.2.2.2.2.2.1)) fun b0 =>
  Option.bind (sh_digest_Words b0) fun r1 =>
  reqP ((r1.length + (toBytes x.2.2.1).length) * 1 ≤ 140737488355328) <|
  bnd (r1 ++ (toBytes x.2.2.1)) fun b2 =>
  Option.bind (sh_digest_Mac (x.1.1, (18 : Int), b2)) fun r3 =>
  bnd (((List.replicate 2 (0 : Int)).set 0 (iConv .u64 x.2.1)).set 1 r3) fun b4 =>
  Option.bind (sh_digest_Words b4) fun r5 =>
  some r5

def sh_session_Open (x : (Int × Int × List (Int × (List UInt8) × (List Int) × Int × Int × Int)) × (List UInt8) × (List Int) × Int × Int × Int) : Option (Int × Int × (List (Int × (List UInt8) × (List Int) × Int × Int × Int)) × (List Int) × Int) :=
  jn (α := (Int × Int × Int × Int × (List (Int × (List UInt8) × (List Int) × Int × Int × Int)) × (List UInt8) × (List Int) × Int × Int × Int)) (ρ := (Int × Int × (List (Int × (List UInt8) × (List Int) × Int × Int × Int)) × (List Int) × Int)) (
    Option.bind (sh_session_bad x.2.2.2.2.1) fun r1 =>
    if r1 then
      some (.inr (x.1.1, x.1.2.1, x.1.2.2, ([] : List Int), (9 : Int)))
    else
      if (bLt x.2.2.2.2.2 (1 : Int)) then
        some (.inr (x.1.1, x.1.2.1, x.1.2.2, ([] : List Int), (9 : Int)))
      else
        if (bGt x.2.2.2.2.2 (1099511627776 : Int)) then
          some (.inr (x.1.1, x.1.2.1, x.1.2.2, ([] : List Int), (9 : Int)))
        else
          some (.inl ((0 : Int), (0 : Int), x.1.1, x.1.2.1, x.1.2.2, x.2.1, x.2.2.1, x.2.2.2.1, x.2.2.2.2.1, x.2.2.2.2.2))
  ) fun j0 =>
  Option.bind (sh_session_Expire ((j0.2.2.1, (j0.2.2.2.1, j0.2.2.2.2.1)), j0.2.2.2.2.2.2.2.2.1)) fun r2 =>
  jn (α := (Int × Int × (List (Int × (List UInt8) × (List Int) × Int × Int × Int)) × Int × Int × Int × Int × Nat × Nat × (List (Int × (List UInt8) × (List Int) × Int × Int × Int)) × (List UInt8) × (List Int) × Int × Int × Int)) (ρ := (Int × Int × (List (Int × (List UInt8) × (List Int) × Int × Int × Int)) × (List Int) × Int)) (
    if (bGe (r2.2.2.length : Int) (32 : Int)) then
      reqP (0 ≤ (1 : Int) ∧ (1 : Int) ≤ (r2.2.2.length : Int)) <|
      some (.inl (j0.2.2.1, j0.2.2.2.1, j0.2.2.2.2.1, j0.1, j0.2.1, r2.1, r2.2.1, (0 + (1 : Int).toNat), (r2.2.2.length - (1 : Int).toNat), r2.2.2, j0.2.2.2.2.2.1, j0.2.2.2.2.2.2.1, j0.2.2.2.2.2.2.2.1, j0.2.2.2.2.2.2.2.2.1, j0.2.2.2.2.2.2.2.2.2))
    else
      some (.inl (j0.2.2.1, j0.2.2.2.1, j0.2.2.2.2.1, j0.1, j0.2.1, r2.1, r2.2.1, 0, r2.2.2.length, r2.2.2, j0.2.2.2.2.2.1, j0.2.2.2.2.2.2.1, j0.2.2.2.2.2.2.2.1, j0.2.2.2.2.2.2.2.2.1, j0.2.2.2.2.2.2.2.2.2))
  ) fun j3 =>
  Option.bind (sh_slices_Clone___byte_byte_ j3.2.2.2.2.2.2.2.2.2.2.2.1) fun r4 =>
  bnd (iAdd .i64 j3.2.2.2.2.2.2.1 (1 : Int)) fun b5 =>
  bnd ((List.replicate 1 ((0 : Int), (([] : List UInt8), (([] : List Int), ((0 : Int), ((0 : Int), (0 : Int))))))).set 0 (j3.2.1, (j3.2.2.2.2.2.2.2.2.2.2.1, (r4, (j3.2.2.2.2.2.2.2.2.2.2.2.2.1, (j3.2.2.2.2.2.2.2.2.2.2.2.2.2.1, (iMin (iAdd .i64 j3.2.2.2.2.2.2.2.2.2.2.2.2.2.1 j3.2.2.2.2.2.2.2.2.2.2.2.2.2.2) (1099511627776 : Int)))))))) fun b6 =>
  reqP ((((j3.2.2.2.2.2.2.2.2.2.1.drop j3.2.2.2.2.2.2.2.1).take j3.2.2.2.2.2.2.2.2.1).length + b6.length) * 72 ≤ 140737488355328) <|
  bnd (((j3.2.2.2.2.2.2.2.2.2.1.drop j3.2.2.2.2.2.2.2.1).take j3.2.2.2.2.2.2.2.2.1) ++ b6) fun b7 =>
  Option.bind (sh_session_Bytes ((j3.2.2.2.2.2.1, (b5, b7)), (j3.2.1, (j3.2.2.2.2.2.2.2.2.2.2.1, (r4, (j3.2.2.2.2.2.2.2.2.2.2.2.2.1, (j3.2.2.2.2.2.2.2.2.2.2.2.2.2.1, (iMin (iAdd .i64 j3.2.2.2.2.2.2.2.2.2.2.2.2.2.1 j3.2.2.2.2.2.2.2.2.2.2.2.2.2.2) (1099511627776 : Int))))))))) fun r8 =>
  some (j3.2.2.2.2.2.1, b5, b7, r8, (0 : Int))

def sh_session_find_1 (x : (Int × (List UInt8) × (List Int) × Int × Int × Int) × Int × (Int × Int × List (Int × (List UInt8) × (List Int) × Int × Int × Int)) × (List Int)) : Option Bool :=
  if (bLe x.2.1 x.1.2.2.2.2.2) then
    Option.bind (sh_session_Bytes ((x.2.2.1.1, (x.2.2.1.2.1, x.2.2.1.2.2)), (x.1.1, (x.1.2.1, (x.1.2.2.1, (x.1.2.2.2.1, (x.1.2.2.2.2.1, x.1.2.2.2.2.2))))))) fun r0 =>
    bnd (sEq (ofBytes r0) (ofBytes x.2.2.2)) fun b1 =>
    some b1
  else
    some false

def sh_slices_IndexFunc___passkey_api_Session_passkey_api_Session_ (x : (List (Int × (List UInt8) × (List Int) × Int × Int × Int)) × Int × (Int × Int × List (Int × (List UInt8) × (List Int) × Int × Int × Int)) × (List Int)) : Option Int :=
  jn (α := (Unit)) (ρ := Int) (loopLim (σ := ((List (Int × (List UInt8) × (List Int) × Int × Int × Int)) × Int × (Int × Int × List (Int × (List UInt8) × (List Int) × Int × Int × Int)) × (List Int) × Int × Int)) (α := (Unit) ⊕ Int) (fun s0 =>
    if (bLt s0.2.2.2.2.2 s0.2.2.2.2.1) then
      atL s0.1 s0.2.2.2.2.2 fun y2 =>
      Option.bind (sh_session_find_1 ((y2.1, (y2.2.1, (y2.2.2.1, (y2.2.2.2.1, (y2.2.2.2.2.1, y2.2.2.2.2.2))))), s0.2.1, s0.2.2.1, s0.2.2.2.1)) fun r3 =>
      if r3 then
        some (.inr (.inr s0.2.2.2.2.2))
      else
        bnd (iAdd .i64 s0.2.2.2.2.2 (1 : Int)) fun b4 =>
        some (.inl (s0.1, s0.2.1, s0.2.2.1, s0.2.2.2.1, s0.2.2.2.2.1, b4))
    else
      some (.inr (.inl ()))
  ) (x.1, x.2.1, x.2.2.1, x.2.2.2, (x.1.length : Int), (0 : Int))) fun j1 =>
  some (-1 : Int)

def sh_session_find (x : (Int × Int × List (Int × (List UInt8) × (List Int) × Int × Int × Int)) × (List Int) × Int) : Option Int :=
  Option.bind (sh_slices_IndexFunc___passkey_api_Session_passkey_api_Session_ (x.1.2.2, x.2.2, (x.1.1, (x.1.2.1, x.1.2.2)), x.2.1)) fun r0 =>
  some r0

def sh_session_Check (x : (Int × Int × List (Int × (List UInt8) × (List Int) × Int × Int × Int)) × (List Int) × Int) : Option (Int × (List UInt8) × (List Int) × Int × Int × Int × Int) :=
  Option.bind (sh_session_bad x.2.2) fun r0 =>
  if r0 then
    some ((0 : Int), ([] : List UInt8), ([] : List Int), (0 : Int), (0 : Int), (0 : Int), (9 : Int))
  else
    Option.bind (sh_session_find ((x.1.1, (x.1.2.1, x.1.2.2)), x.2.1, x.2.2)) fun r1 =>
    if (bLt r1 (0 : Int)) then
      some ((0 : Int), ([] : List UInt8), ([] : List Int), (0 : Int), (0 : Int), (0 : Int), (11 : Int))
    else
      atL x.1.2.2 r1 fun y2 =>
      Option.bind (sh_slices_Clone___byte_byte_ y2.2.2.1) fun r3 =>
      some (y2.1, y2.2.1, r3, y2.2.2.2.1, y2.2.2.2.2.1, y2.2.2.2.2.2, (0 : Int))

def sh_session_Close_1 (x : (Int × (List UInt8) × (List Int) × Int × Int × Int) × Int) : Option Bool :=
  bnd (bEq x.1.1 x.2) fun b0 =>
  some b0

def sh_session_without_2 (x : (Int × Int × List (Int × (List UInt8) × (List Int) × Int × Int × Int)) × Int) : Option (Int × Int × (List (Int × (List UInt8) × (List Int) × Int × Int × Int))) :=
  jn (α := (Int × Int × Int × Int × (List (Int × (List UInt8) × (List Int) × Int × Int × Int)))) (ρ := (Int × Int × (List (Int × (List UInt8) × (List Int) × Int × Int × Int)))) (loopLim (σ := (Int × Int × Int × Int × (List (Int × (List UInt8) × (List Int) × Int × Int × Int)) × Int × (List (Int × (List UInt8) × (List Int) × Int × Int × Int)) × Int × Int)) (α := (Int × Int × Int × Int × (List (Int × (List UInt8) × (List Int) × Int × Int × Int))) ⊕ (Int × Int × (List (Int × (List UInt8) × (List Int) × Int × Int × Int)))) (fun s0 =>
    if (bLt s0.2.2.2.2.2.2.2.2 s0.2.2.2.2.2.2.2.1) then
      atL s0.2.2.2.2.2.2.1 s0.2.2.2.2.2.2.2.2 fun y2 =>
      Option.bind (sh_session_Close_1 ((y2.1, (y2.2.1, (y2.2.2.1, (y2.2.2.2.1, (y2.2.2.2.2.1, y2.2.2.2.2.2))))), s0.2.2.2.2.2.1)) fun r3 =>
      if (!r3) then
        bnd ((List.replicate 1 ((0 : Int), (([] : List UInt8), (([] : List Int), ((0 : Int), ((0 : Int), (0 : Int))))))).set 0 (y2.1, (y2.2.1, (y2.2.2.1, (y2.2.2.2.1, (y2.2.2.2.2.1, y2.2.2.2.2.2)))))) fun b4 =>
        reqP ((s0.2.2.2.2.1.length + b4.length) * 72 ≤ 140737488355328) <|
        bnd (s0.2.2.2.2.1 ++ b4) fun b5 =>
        bnd (iAdd .i64 s0.2.2.2.2.2.2.2.2 (1 : Int)) fun b6 =>
        some (.inl (s0.1, s0.2.1, s0.2.2.1, s0.2.2.2.1, b5, s0.2.2.2.2.2.1, s0.2.2.2.2.2.2.1, s0.2.2.2.2.2.2.2.1, b6))
      else
        bnd (iAdd .i64 s0.2.2.2.2.2.2.2.2 (1 : Int)) fun b7 =>
        some (.inl (s0.1, s0.2.1, s0.2.2.1, s0.2.2.2.1, s0.2.2.2.2.1, s0.2.2.2.2.2.1, s0.2.2.2.2.2.2.1, s0.2.2.2.2.2.2.2.1, b7))
    else
      some (.inr (.inl (s0.1, s0.2.1, s0.2.2.1, s0.2.2.2.1, s0.2.2.2.2.1)))
  ) ((0 : Int), (0 : Int), x.1.1, x.1.2.1, ([] : List (Int × (List UInt8) × (List Int) × Int × Int × Int)), x.2, x.1.2.2, (x.1.2.2.length : Int), (0 : Int))) fun j1 =>
  some (j1.2.2.1, j1.2.2.2.1, j1.2.2.2.2)

def sh_session_Close (x : (Int × Int × List (Int × (List UInt8) × (List Int) × Int × Int × Int)) × (List Int) × Int) : Option (Int × Int × (List (Int × (List UInt8) × (List Int) × Int × Int × Int)) × Int) :=
  Option.bind (sh_session_bad x.2.2) fun r0 =>
  if r0 then
    some (x.1.1, x.1.2.1, x.1.2.2, (9 : Int))
  else
    Option.bind (sh_session_find ((x.1.1, (x.1.2.1, x.1.2.2)), x.2.1, x.2.2)) fun r1 =>
    if (bLt r1 (0 : Int)) then
      some (x.1.1, x.1.2.1, x.1.2.2, (11 : Int))
    else
      atL x.1.2.2 r1 fun y2 =>
      Option.bind (sh_session_Expire ((x.1.1, (x.1.2.1, x.1.2.2)), x.2.2)) fun r3 =>
      Option.bind (sh_session_without_2 ((r3.1, (r3.2.1, r3.2.2)), y2.1)) fun r4 =>
      some (r4.1, r4.2.1, r4.2.2, (0 : Int))

def sh_session_RevokeModel_1 (x : (Int × (List UInt8) × (List Int) × Int × Int × Int) × Int) : Option Bool :=
  if (bNe x.2 (0 : Int)) then
    bnd (bEq x.1.2.2.2.1 x.2) fun b0 =>
    some b0
  else
    some false

def sh_session_without_3 (x : (Int × Int × List (Int × (List UInt8) × (List Int) × Int × Int × Int)) × Int) : Option (Int × Int × (List (Int × (List UInt8) × (List Int) × Int × Int × Int))) :=
  jn (α := (Int × Int × Int × Int × (List (Int × (List UInt8) × (List Int) × Int × Int × Int)))) (ρ := (Int × Int × (List (Int × (List UInt8) × (List Int) × Int × Int × Int)))) (loopLim (σ := (Int × Int × Int × Int × (List (Int × (List UInt8) × (List Int) × Int × Int × Int)) × Int × (List (Int × (List UInt8) × (List Int) × Int × Int × Int)) × Int × Int)) (α := (Int × Int × Int × Int × (List (Int × (List UInt8) × (List Int) × Int × Int × Int))) ⊕ (Int × Int × (List (Int × (List UInt8) × (List Int) × Int × Int × Int)))) (fun s0 =>
    if (bLt s0.2.2.2.2.2.2.2.2 s0.2.2.2.2.2.2.2.1) then
      atL s0.2.2.2.2.2.2.1 s0.2.2.2.2.2.2.2.2 fun y2 =>
      Option.bind (sh_session_RevokeModel_1 ((y2.1, (y2.2.1, (y2.2.2.1, (y2.2.2.2.1, (y2.2.2.2.2.1, y2.2.2.2.2.2))))), s0.2.2.2.2.2.1)) fun r3 =>
      if (!r3) then
        bnd ((List.replicate 1 ((0 : Int), (([] : List UInt8), (([] : List Int), ((0 : Int), ((0 : Int), (0 : Int))))))).set 0 (y2.1, (y2.2.1, (y2.2.2.1, (y2.2.2.2.1, (y2.2.2.2.2.1, y2.2.2.2.2.2)))))) fun b4 =>
        reqP ((s0.2.2.2.2.1.length + b4.length) * 72 ≤ 140737488355328) <|
        bnd (s0.2.2.2.2.1 ++ b4) fun b5 =>
        bnd (iAdd .i64 s0.2.2.2.2.2.2.2.2 (1 : Int)) fun b6 =>
        some (.inl (s0.1, s0.2.1, s0.2.2.1, s0.2.2.2.1, b5, s0.2.2.2.2.2.1, s0.2.2.2.2.2.2.1, s0.2.2.2.2.2.2.2.1, b6))
      else
        bnd (iAdd .i64 s0.2.2.2.2.2.2.2.2 (1 : Int)) fun b7 =>
        some (.inl (s0.1, s0.2.1, s0.2.2.1, s0.2.2.2.1, s0.2.2.2.2.1, s0.2.2.2.2.2.1, s0.2.2.2.2.2.2.1, s0.2.2.2.2.2.2.2.1, b7))
    else
      some (.inr (.inl (s0.1, s0.2.1, s0.2.2.1, s0.2.2.2.1, s0.2.2.2.2.1)))
  ) ((0 : Int), (0 : Int), x.1.1, x.1.2.1, ([] : List (Int × (List UInt8) × (List Int) × Int × Int × Int)), x.2, x.1.2.2, (x.1.2.2.length : Int), (0 : Int))) fun j1 =>
  some (j1.2.2.1, j1.2.2.2.1, j1.2.2.2.2)

def sh_session_RevokeModel (x : (Int × Int × List (Int × (List UInt8) × (List Int) × Int × Int × Int)) × Int) : Option (Int × Int × (List (Int × (List UInt8) × (List Int) × Int × Int × Int))) :=
  Option.bind (sh_session_without_3 ((x.1.1, (x.1.2.1, x.1.2.2)), x.2)) fun r0 =>
  some (r0.1, r0.2.1, r0.2.2)

def sh_passkeylaw34_awake (x : Unit) : Option Bool :=
  Option.bind (sh_session_New (7 : Int)) fun r0 =>
  bnd ((List.replicate 1 (0 : Int)).set 0 (1 : Int)) fun b1 =>
  Option.bind (sh_session_Open ((r0.1, (r0.2.1, r0.2.2)), ([97, 108, 105, 99, 101] : List UInt8), b1, (3 : Int), (10 : Int), (5 : Int))) fun r2 =>
  Option.bind (sh_session_Check ((r2.1, (r2.2.1, r2.2.2.1)), r2.2.2.2.1, (15 : Int))) fun r3 =>
  Option.bind (sh_session_Check ((r2.1, (r2.2.1, r2.2.2.1)), r2.2.2.2.1, (16 : Int))) fun r4 =>
  Option.bind (sh_session_Close ((r2.1, (r2.2.1, r2.2.2.1)), r2.2.2.2.1, (12 : Int))) fun r5 =>
  Option.bind (sh_session_Check ((r5.1, (r5.2.1, r5.2.2.1)), r2.2.2.2.1, (12 : Int))) fun r6 =>
  Option.bind (sh_session_RevokeModel ((r2.1, (r2.2.1, r2.2.2.1)), (3 : Int))) fun r7 =>
  Option.bind (sh_session_Check ((r7.1, (r7.2.1, r7.2.2)), r2.2.2.2.1, (12 : Int))) fun r8 =>
  if (bEq r2.2.2.2.2 (0 : Int)) then
    if (bEq r3.2.2.2.2.2.2 (0 : Int)) then
      if (bEq (r2.2.2.2.1.length : Int) (16 : Int)) then
        if (sEq r3.2.1 ([97, 108, 105, 99, 101] : List UInt8)) then
          if (bEq r3.2.2.2.2.2.1 (15 : Int)) then
            if (bEq r4.2.2.2.2.2.2 (11 : Int)) then
              if (bEq r5.2.2.2 (0 : Int)) then
                if (bEq r6.2.2.2.2.2.2 (11 : Int)) then
                  bnd (bEq r8.2.2.2.2.2.2 (11 : Int)) fun b9 =>
                  some b9
                else
                  some false
              else
                some false
            else
              some false
          else
            some false
        else
          some false
      else
        some false
    else
      some false
  else
    some false

def sh_passkeyref29_SessionBytes (x : (Int × Int × List (Int × (List UInt8) × (List Int) × Int × Int × Int)) × (Int × (List UInt8) × (List Int) × Int × Int × Int)) : Option (List Int) :=
  bnd (((List.replicate 2 (0 : Int)).set 0 (iConv .u64 x.2.1)).set 1 (iConv .u64 x.2.2.2.2.2.1)) fun b0 =>
  Option.bind (sh_passkeyref1_Words b0) fun r1 =>
  reqP ((r1.length + (toBytes x.2.2.1).length) * 1 ≤ 140737488355328) <|
  bnd (r1 ++ (toBytes x.2.2.1)) fun b2 =>
  Option.bind (sh_passkeyref1_Mac (x.1.1, (18 : Int), b2)) fun r3 =>
  bnd (((List.replicate 2 (0 : Int)).set 0 (iConv .u64 x.2.1)).set 1 r3) fun b4 =>
  Option.bind (sh_passkeyref1_Words b4) fun r5 =>
  some r5

def sh_passkeylaw34_SessionBytes (x : (Int × Int × List (Int × (List UInt8) × (List Int) × Int × Int × Int)) × (Int × (List UInt8) × (List Int) × Int × Int × Int)) : Option Bool :=
  if (bGt (x.2.2.1.length : Int) (200 : Int)) then
    Option.bind (sh_passkeylaw34_awake ()) fun r0 =>
    some r0
  else
    Option.bind (sh_session_Bytes ((x.1.1, (x.1.2.1, x.1.2.2)), (x.2.1, (x.2.2.1, (x.2.2.2.1, (x.2.2.2.2.1, (x.2.2.2.2.2.1, x.2.2.2.2.2.2))))))) fun r1 =>
    Option.bind (sh_passkeyref29_SessionBytes ((x.1.1, (x.1.2.1, x.1.2.2)), (x.2.1, (x.2.2.1, (x.2.2.2.1, (x.2.2.2.2.1, (x.2.2.2.2.2.1, x.2.2.2.2.2.2))))))) fun r2 =>
    if (sEq (ofBytes r1) (ofBytes r2)) then
      Option.bind (sh_passkeylaw34_awake ()) fun r3 =>
      some r3
    else
      some false
end
end Go.Vm
