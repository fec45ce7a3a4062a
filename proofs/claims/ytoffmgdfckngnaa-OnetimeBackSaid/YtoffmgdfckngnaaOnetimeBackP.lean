/- What the functions compute. PRINTED by a program of this session's. -/
import Derived.Test.YtoffmgdfckngnaaV5
set_option linter.unusedVariables false
namespace Go.Vm
noncomputable section
def sh_onetime_split (x : Int) : Option (Arr 18 Int) :=
  jn (α := ((Arr 18 Int) × Int)) (ρ := (Arr 18 Int)) (loopLim (σ := ((Arr 18 Int) × Int × Int × Int)) (α := ((Arr 18 Int) × Int) ⊕ (Arr 18 Int)) (fun s0 =>
    if (bLt s0.2.2.2 (16 : Int)) then
      reqP (0 ≤ (iSub .i64 (60 : Int) (iMul .i64 (4 : Int) s0.2.2.2))) <|
      reqP (0 ≤ s0.2.2.2 ∧ s0.2.2.2 < 18) <|
      bnd (arrWr s0.1 s0.2.2.2 (iConv .i64 (iAnd .u64 (iShr .u64 s0.2.1 (iSub .i64 (60 : Int) (iMul .i64 (4 : Int) s0.2.2.2))) (15 : Int)))) fun b2 =>
      reqP (0 ≤ s0.2.2.2 ∧ s0.2.2.2 < 18) <|
      bnd (iAdd .i64 s0.2.2.1 (iSub .i64 (15 : Int) (arrRd (0 : Int) b2 s0.2.2.2))) fun b3 =>
      bnd (iAdd .i64 s0.2.2.2 (1 : Int)) fun b4 =>
      some (.inl (b2, s0.2.1, b3, b4))
    else
      some (.inr (.inl (s0.1, s0.2.2.1)))
  ) ((⟨[(0 : Int), (0 : Int), (0 : Int), (0 : Int), (0 : Int), (0 : Int), (0 : Int), (0 : Int), (0 : Int), (0 : Int), (0 : Int), (0 : Int), (0 : Int), (0 : Int), (0 : Int), (0 : Int), (0 : Int), (0 : Int)], rfl⟩ : Arr 18 Int), x, (0 : Int), (0 : Int))) fun j1 =>
  reqP (0 ≤ (16 : Int) ∧ (16 : Int) < 18) <|
  bnd (arrWr j1.1 (16 : Int) (iQuo .i64 j1.2 (16 : Int))) fun b5 =>
  reqP (0 ≤ (17 : Int) ∧ (17 : Int) < 18) <|
  bnd (arrWr b5 (17 : Int) (iRem .i64 j1.2 (16 : Int))) fun b6 =>
  some b6

def sh_onetime_Split (x : Int) : Option (List Int) :=
  Option.bind (sh_onetime_split x) fun r0 =>
  some r0.1

def sh_passkeyref3_Split (x : Int) : Option (List Int) :=
  jn (α := ((List Int) × Int)) (ρ := (List Int)) (loopLim (σ := ((List Int) × Int × Int × Int)) (α := ((List Int) × Int) ⊕ (List Int)) (fun s0 =>
    if (bGe s0.2.2.2 (0 : Int)) then
      reqP (0 ≤ (iConv .u64 (iMul .i64 (4 : Int) s0.2.2.2))) <|
      bnd (iConv .i64 (iAnd .u64 (iShr .u64 s0.2.1 (iConv .u64 (iMul .i64 (4 : Int) s0.2.2.2))) (15 : Int))) fun b2 =>
      bnd ((List.replicate 1 (0 : Int)).set 0 b2) fun b3 =>
      reqP ((s0.1.length + b3.length) * 8 ≤ 140737488355328) <|
      bnd (s0.1 ++ b3) fun b4 =>
      bnd (iAdd .i64 s0.2.2.1 (iSub .i64 (15 : Int) b2)) fun b5 =>
      bnd (iSub .i64 s0.2.2.2 (1 : Int)) fun b6 =>
      some (.inl (b4, s0.2.1, b5, b6))
    else
      some (.inr (.inl (s0.1, s0.2.2.1)))
  ) (([] : List Int), x, (0 : Int), (15 : Int))) fun j1 =>
  bnd (((List.replicate 2 (0 : Int)).set 0 (iQuo .i64 j1.2 (16 : Int))).set 1 (iRem .i64 j1.2 (16 : Int))) fun b7 =>
  reqP ((j1.1.length + b7.length) * 8 ≤ 140737488355328) <|
  bnd (j1.1 ++ b7) fun b8 =>
  some b8

def sh_passkeylaw3_ints (x : (List Int) × (List Int)) : Option Bool :=
  if (bNe (x.1.length : Int) (x.2.length : Int)) then
    some false
  else
    jn (α := (Unit)) (ρ := Bool) (loopLim (σ := ((List Int) × (List Int) × Int)) (α := (Unit) ⊕ Bool) (fun s0 =>
      if (bLt s0.2.2 (s0.1.length : Int)) then
        atL s0.1 s0.2.2 fun y2 =>
        atL s0.2.1 s0.2.2 fun y3 =>
        if (bNe y2 y3) then
          some (.inr (.inr false))
        else
          bnd (iAdd .i64 s0.2.2 (1 : Int)) fun b4 =>
          some (.inl (s0.1, s0.2.1, b4))
      else
        some (.inr (.inl ()))
    ) (x.1, x.2, (0 : Int))) fun j1 =>
    some true

def sh_digest_Words (x : (List Int)) : Option (List Int) :=
  jn (α := (List Int)) (ρ := (List Int)) (loopLim (σ := ((List Int) × (List Int) × Int × Int)) (α := (List Int) ⊕ (List Int)) (fun s0 =>
    if (bLt s0.2.2.2 s0.2.2.1) then
      atL s0.2.1 s0.2.2.2 fun y2 =>
      jn (α := ((List Int) × (List Int) × Int × Int)) (ρ := (((List Int) × (List Int) × Int × Int) ⊕ ((List Int) ⊕ (List Int)))) (loopLim (σ := ((List Int) × Int × (List Int) × Int × Int × Int)) (α := ((List Int) × (List Int) × Int × Int) ⊕ (((List Int) × (List Int) × Int × Int) ⊕ ((List Int) ⊕ (List Int)))) (fun s3 =>
        if (bLt s3.2.2.2.2.2 (8 : Int)) then
          reqP (0 ≤ (iSub .i64 (56 : Int) (iMul .i64 (8 : Int) s3.2.2.2.2.2))) <|
          bnd ((List.replicate 1 (0 : Int)).set 0 (iConv .u8 (iShr .u64 s3.2.1 (iSub .i64 (56 : Int) (iMul .i64 (8 : Int) s3.2.2.2.2.2))))) fun b5 =>
          reqP ((s3.1.length + b5.length) * 1 ≤ 140737488355328) <|
          bnd (s3.1 ++ b5) fun b6 =>
          bnd (iAdd .i64 s3.2.2.2.2.2 (1 : Int)) fun b7 =>
          some (.inl (b6, s3.2.1, s3.2.2.1, s3.2.2.2.1, s3.2.2.2.2.1, b7))
        else
          some (.inr (.inl (s3.1, s3.2.2.1, s3.2.2.2.1, s3.2.2.2.2.1)))
      ) (s0.1, y2, s0.2.1, s0.2.2.1, s0.2.2.2, (0 : Int))) fun j4 =>
      bnd (iAdd .i64 j4.2.2.2 (1 : Int)) fun b8 =>
      some (.inl (j4.1, j4.2.1, j4.2.2.1, b8))
    else
      some (.inr (.inl s0.1))
  ) (([] : List Int), x, (x.length : Int), (0 : Int))) fun j1 =>
  some j1

def sh_digest_little (x : (List Int)) : Option Int :=
  jn (α := Int) (ρ := Int) (loopLim (σ := (Int × (List Int) × Int × Int)) (α := Int ⊕ Int) (fun s0 =>
    if (bLt s0.2.2.2 s0.2.2.1) then
      atL s0.2.1 s0.2.2.2 fun y2 =>
      reqP (0 ≤ (iMul .i64 (8 : Int) s0.2.2.2)) <|
      bnd (iOr .u64 s0.1 (iShl .u64 (iConv .u64 y2) (iMul .i64 (8 : Int) s0.2.2.2))) fun b3 =>
      bnd (iAdd .i64 s0.2.2.2 (1 : Int)) fun b4 =>
      some (.inl (b3, s0.2.1, s0.2.2.1, b4))
    else
      some (.inr (.inl s0.1))
  ) ((0 : Int), x, (x.length : Int), (0 : Int))) fun j1 =>
  some j1

def sh_math_bits_RotateLeft64 (x : Int × Int) : Option Int :=
  bnd (iAnd .u64 (iConv .u64 x.2) (63 : Int)) fun b0 =>
  reqP (0 ≤ b0) <|
  reqP (0 ≤ (iSub .u64 (64 : Int) b0)) <|
  bnd (iOr .u64 (iShl .u64 x.1 b0) (iShr .u64 x.1 (iSub .u64 (64 : Int) b0))) fun b1 =>
  some b1

def sh___passkey_digest_state__round (x : Int × Int × Int × Int × Int) : Option (Int × Int × Int × Int) :=
  jn (α := (Int × Int × Int × Int)) (ρ := (Int × Int × Int × Int)) (loopLim (σ := (Int × Int × Int × Int × Int × Int)) (α := (Int × Int × Int × Int) ⊕ (Int × Int × Int × Int)) (fun s0 =>
    if (bLt s0.2.2.2.2.2 s0.2.2.2.2.1) then
      bnd (iAdd .u64 s0.1 s0.2.1) fun b2 =>
      Option.bind (sh_math_bits_RotateLeft64 (s0.2.1, (13 : Int))) fun r3 =>
      bnd (iXor .u64 r3 b2) fun b4 =>
      Option.bind (sh_math_bits_RotateLeft64 (b2, (32 : Int))) fun r5 =>
      bnd (iAdd .u64 s0.2.2.1 s0.2.2.2.1) fun b6 =>
      Option.bind (sh_math_bits_RotateLeft64 (s0.2.2.2.1, (16 : Int))) fun r7 =>
      bnd (iXor .u64 r7 b6) fun b8 =>
      bnd (iAdd .u64 r5 b8) fun b9 =>
      Option.bind (sh_math_bits_RotateLeft64 (b8, (21 : Int))) fun r10 =>
      bnd (iXor .u64 r10 b9) fun b11 =>
      bnd (iAdd .u64 b6 b4) fun b12 =>
      Option.bind (sh_math_bits_RotateLeft64 (b4, (17 : Int))) fun r13 =>
      bnd (iXor .u64 r13 b12) fun b14 =>
      Option.bind (sh_math_bits_RotateLeft64 (b12, (32 : Int))) fun r15 =>
      bnd (iAdd .i64 s0.2.2.2.2.2 (1 : Int)) fun b16 =>
      some (.inl (b9, b14, r15, b11, s0.2.2.2.2.1, b16))
    else
      some (.inr (.inl (s0.1, s0.2.1, s0.2.2.1, s0.2.2.2.1)))
  ) (x.1, x.2.1, x.2.2.1, x.2.2.2.1, x.2.2.2.2, (0 : Int))) fun j1 =>
  some (j1.1, j1.2.1, j1.2.2.1, j1.2.2.2)

def sh___passkey_digest_state__word (x : Int × Int × Int × Int × Int) : Option (Int × Int × Int × Int) :=
  bnd (iXor .u64 x.2.2.2.1 x.2.2.2.2) fun b0 =>
  Option.bind (sh___passkey_digest_state__round (x.1, x.2.1, x.2.2.1, b0, (2 : Int))) fun r1 =>
  bnd (iXor .u64 r1.1 x.2.2.2.2) fun b2 =>
  some (b2, r1.2.1, r1.2.2.1, r1.2.2.2)

def sh_digest_Sum (x : Int × Int × (List Int)) : Option Int :=
  bnd (iShl .u64 (iConv .u64 (x.2.2.length : Int)) (56 : Int)) fun b0 =>
  jn (α := (Int × Int × Int × Int × (List Int) × Int)) (ρ := Int) (loopLim (σ := (Int × Int × Int × Int × (List Int) × Int)) (α := (Int × Int × Int × Int × (List Int) × Int) ⊕ Int) (fun s1 =>
    if (bGe (s1.2.2.2.2.1.length : Int) (8 : Int)) then
      reqP (0 ≤ (8 : Int) ∧ (8 : Int) ≤ (s1.2.2.2.2.1.length : Int)) <|
      Option.bind (sh_digest_little (s1.2.2.2.2.1.take (8 : Int).toNat)) fun r3 =>
      Option.bind (sh___passkey_digest_state__word (s1.1, s1.2.1, s1.2.2.1, s1.2.2.2.1, r3)) fun r4 =>
      reqP (0 ≤ (8 : Int) ∧ (8 : Int) ≤ (s1.2.2.2.2.1.length : Int)) <|
      some (.inl (r4.1, r4.2.1, r4.2.2.1, r4.2.2.2, (s1.2.2.2.2.1.drop (8 : Int).toNat), s1.2.2.2.2.2))
    else
      some (.inr (.inl (s1.1, s1.2.1, s1.2.2.1, s1.2.2.2.1, s1.2.2.2.2.1, s1.2.2.2.2.2)))
  ) ((iXor .u64 x.1 (8317987319222330741 : Int)), (iXor .u64 x.2.1 (7237128888997146477 : Int)), (iXor .u64 x.1 (7816392313619706465 : Int)), (iXor .u64 x.2.1 (8387220255154660723 : Int)), x.2.2, b0)) fun j2 =>
  Option.bind (sh_digest_little j2.2.2.2.2.1) fun r5 =>
  Option.bind (sh___passkey_digest_state__word (j2.1, j2.2.1, j2.2.2.1, j2.2.2.2.1, (iOr .u64 j2.2.2.2.2.2 r5))) fun r6 =>
  bnd (iXor .u64 r6.2.2.1 (255 : Int)) fun b7 =>
  Option.bind (sh___passkey_digest_state__round (r6.1, r6.2.1, b7, r6.2.2.2, (4 : Int))) fun r8 =>
  bnd (iXor .u64 (iXor .u64 (iXor .u64 r8.1 r8.2.1) r8.2.2.1) r8.2.2.2) fun b9 =>
  some b9

def sh_digest_Hash (x : Int × (List Int)) : Option Int :=
  Option.bind (sh_digest_Sum ((iConv .u64 x.1), (0 : Int), x.2)) fun r0 =>
  some r0

def sh_onetime_Run (x : Int × Int × Int × Int × Int) : Option Int :=
  bnd (iMax x.2.2.1 (0 : Int)) fun b0 =>
  jn (α := Int) (ρ := Int) (loopLim (σ := (Int × Int × Int × Int × Int)) (α := Int ⊕ Int) (fun s1 =>
    if (bLt s1.2.2.2.2 (iMin s1.2.2.1 (15 : Int))) then
      bnd (((((List.replicate 4 (0 : Int)).set 0 (iConv .u64 s1.1)).set 1 (iConv .u64 s1.2.1)).set 2 (iConv .u64 s1.2.2.2.2)).set 3 s1.2.2.2.1) fun b3 =>
      Option.bind (sh_digest_Words b3) fun r4 =>
      Option.bind (sh_digest_Hash ((1 : Int), r4)) fun r5 =>
      bnd (iAdd .i64 s1.2.2.2.2 (1 : Int)) fun b6 =>
      some (.inl (s1.1, s1.2.1, s1.2.2.1, r5, b6))
    else
      some (.inr (.inl s1.2.2.2.1))
  ) (x.1, x.2.1, x.2.2.2.1, x.2.2.2.2, b0)) fun j2 =>
  some j2

def sh_passkeylaw3_awake (x : Unit) : Option Bool :=
  Option.bind (sh_onetime_Split (0 : Int)) fun r0 =>
  Option.bind (sh_onetime_Split (18446744073709551615 : Int)) fun r1 =>
  if (bEq (r0.length : Int) (18 : Int)) then
    if (bEq (r1.length : Int) (18 : Int)) then
      reqP (0 ≤ (0 : Int) ∧ (0 : Int) < (r0.length : Int)) <|
      if (bEq (r0.getD (0 : Int).toNat (0 : Int)) (0 : Int)) then
        reqP (0 ≤ (16 : Int) ∧ (16 : Int) < (r0.length : Int)) <|
        if (bEq (r0.getD (16 : Int).toNat (0 : Int)) (15 : Int)) then
          reqP (0 ≤ (17 : Int) ∧ (17 : Int) < (r0.length : Int)) <|
          if (bEq (r0.getD (17 : Int).toNat (0 : Int)) (0 : Int)) then
            reqP (0 ≤ (0 : Int) ∧ (0 : Int) < (r1.length : Int)) <|
            if (bEq (r1.getD (0 : Int).toNat (0 : Int)) (15 : Int)) then
              reqP (0 ≤ (16 : Int) ∧ (16 : Int) < (r1.length : Int)) <|
              if (bEq (r1.getD (16 : Int).toNat (0 : Int)) (0 : Int)) then
                reqP (0 ≤ (17 : Int) ∧ (17 : Int) < (r1.length : Int)) <|
                if (bEq (r1.getD (17 : Int).toNat (0 : Int)) (0 : Int)) then
                  Option.bind (sh_onetime_Run ((1 : Int), (2 : Int), (5 : Int), (5 : Int), (9 : Int))) fun r2 =>
                  bnd (bEq r2 (9 : Int)) fun b3 =>
                  some b3
                else
                  some false
              else
                some false
            else
              some false
          else
            some false
        else
          some false
      else
        some false
    else
      some false
  else
    some false

def sh_passkeylaw3_OnetimeSplits (x : Int) : Option Bool :=
  Option.bind (sh_onetime_Split x) fun r0 =>
  Option.bind (sh_passkeyref3_Split x) fun r1 =>
  Option.bind (sh_passkeylaw3_ints (r0, r1)) fun r2 =>
  if r2 then
    Option.bind (sh_passkeylaw3_awake ()) fun r3 =>
    some r3
  else
    some false

def sh_passkeyref1_Words (x : (List Int)) : Option (List Int) :=
  jn (α := (List Int)) (ρ := (List Int)) (loopLim (σ := ((List Int) × (List Int) × Int)) (α := (List Int) ⊕ (List Int)) (fun s0 =>
    if (bLt s0.2.2 (s0.2.1.length : Int)) then
      jn (α := ((List Int) × (List Int) × Int)) (ρ := (((List Int) × (List Int) × Int) ⊕ ((List Int) ⊕ (List Int)))) (loopLim (σ := ((List Int) × (List Int) × Int × Int)) (α := ((List Int) × (List Int) × Int) ⊕ (((List Int) × (List Int) × Int) ⊕ ((List Int) ⊕ (List Int)))) (fun s2 =>
        if (bGe s2.2.2.2 (0 : Int)) then
          atL s2.2.1 s2.2.2.1 fun y4 =>
          reqP (0 ≤ (iConv .u64 (iMul .i64 (8 : Int) s2.2.2.2))) <|
          bnd ((List.replicate 1 (0 : Int)).set 0 (iConv .u8 (iShr .u64 y4 (iConv .u64 (iMul .i64 (8 : Int) s2.2.2.2))))) fun b5 =>
          reqP ((s2.1.length + b5.length) * 1 ≤ 140737488355328) <|
          bnd (s2.1 ++ b5) fun b6 =>
          bnd (iSub .i64 s2.2.2.2 (1 : Int)) fun b7 =>
          some (.inl (b6, s2.2.1, s2.2.2.1, b7))
        else
          some (.inr (.inl (s2.1, s2.2.1, s2.2.2.1)))
      ) (s0.1, s0.2.1, s0.2.2, (7 : Int))) fun j3 =>
      bnd (iAdd .i64 j3.2.2 (1 : Int)) fun b8 =>
      some (.inl (j3.1, j3.2.1, b8))
    else
      some (.inr (.inl s0.1))
  ) (([] : List Int), x, (0 : Int))) fun j1 =>
  some j1

def sh_passkeyref1_rotl (x : Int × Int) : Option Int :=
  reqP (0 ≤ x.2) <|
  reqP (0 ≤ (iSub .u64 (64 : Int) x.2)) <|
  bnd (iOr .u64 (iShl .u64 x.1 x.2) (iShr .u64 x.1 (iSub .u64 (64 : Int) x.2))) fun b0 =>
  some b0

def sh_passkeyref1_round (x : (Arr 4 Int)) : Option (Arr 4 Int) :=
  reqP (0 ≤ (0 : Int) ∧ (0 : Int) < 4) <|
  reqP (0 ≤ (1 : Int) ∧ (1 : Int) < 4) <|
  reqP (0 ≤ (0 : Int) ∧ (0 : Int) < 4) <|
  bnd (arrWr x (0 : Int) (iAdd .u64 (arrRd (0 : Int) x (0 : Int)) (arrRd (0 : Int) x (1 : Int)))) fun b0 =>
  reqP (0 ≤ (1 : Int) ∧ (1 : Int) < 4) <|
  Option.bind (sh_passkeyref1_rotl ((arrRd (0 : Int) b0 (1 : Int)), (13 : Int))) fun r1 =>
  reqP (0 ≤ (0 : Int) ∧ (0 : Int) < 4) <|
  reqP (0 ≤ (1 : Int) ∧ (1 : Int) < 4) <|
  bnd (arrWr b0 (1 : Int) (iXor .u64 r1 (arrRd (0 : Int) b0 (0 : Int)))) fun b2 =>
  reqP (0 ≤ (0 : Int) ∧ (0 : Int) < 4) <|
  Option.bind (sh_passkeyref1_rotl ((arrRd (0 : Int) b2 (0 : Int)), (32 : Int))) fun r3 =>
  reqP (0 ≤ (0 : Int) ∧ (0 : Int) < 4) <|
  bnd (arrWr b2 (0 : Int) r3) fun b4 =>
  reqP (0 ≤ (2 : Int) ∧ (2 : Int) < 4) <|
  reqP (0 ≤ (3 : Int) ∧ (3 : Int) < 4) <|
  reqP (0 ≤ (2 : Int) ∧ (2 : Int) < 4) <|
  bnd (arrWr b4 (2 : Int) (iAdd .u64 (arrRd (0 : Int) b4 (2 : Int)) (arrRd (0 : Int) b4 (3 : Int)))) fun b5 =>
  reqP (0 ≤ (3 : Int) ∧ (3 : Int) < 4) <|
  Option.bind (sh_passkeyref1_rotl ((arrRd (0 : Int) b5 (3 : Int)), (16 : Int))) fun r6 =>
  reqP (0 ≤ (2 : Int) ∧ (2 : Int) < 4) <|
  reqP (0 ≤ (3 : Int) ∧ (3 : Int) < 4) <|
  bnd (arrWr b5 (3 : Int) (iXor .u64 r6 (arrRd (0 : Int) b5 (2 : Int)))) fun b7 =>
  reqP (0 ≤ (0 : Int) ∧ (0 : Int) < 4) <|
  reqP (0 ≤ (3 : Int) ∧ (3 : Int) < 4) <|
  reqP (0 ≤ (0 : Int) ∧ (0 : Int) < 4) <|
  bnd (arrWr b7 (0 : Int) (iAdd .u64 (arrRd (0 : Int) b7 (0 : Int)) (arrRd (0 : Int) b7 (3 : Int)))) fun b8 =>
  reqP (0 ≤ (3 : Int) ∧ (3 : Int) < 4) <|
  Option.bind (sh_passkeyref1_rotl ((arrRd (0 : Int) b8 (3 : Int)), (21 : Int))) fun r9 =>
  reqP (0 ≤ (0 : Int) ∧ (0 : Int) < 4) <|
  reqP (0 ≤ (3 : Int) ∧ (3 : Int) < 4) <|
  bnd (arrWr b8 (3 : Int) (iXor .u64 r9 (arrRd (0 : Int) b8 (0 : Int)))) fun b10 =>
  reqP (0 ≤ (2 : Int) ∧ (2 : Int) < 4) <|
  reqP (0 ≤ (1 : Int) ∧ (1 : Int) < 4) <|
  reqP (0 ≤ (2 : Int) ∧ (2 : Int) < 4) <|
  bnd (arrWr b10 (2 : Int) (iAdd .u64 (arrRd (0 : Int) b10 (2 : Int)) (arrRd (0 : Int) b10 (1 : Int)))) fun b11 =>
  reqP (0 ≤ (1 : Int) ∧ (1 : Int) < 4) <|
  Option.bind (sh_passkeyref1_rotl ((arrRd (0 : Int) b11 (1 : Int)), (17 : Int))) fun r12 =>
  reqP (0 ≤ (2 : Int) ∧ (2 : Int) < 4) <|
  reqP (0 ≤ (1 : Int) ∧ (1 : Int) < 4) <|
  bnd (arrWr b11 (1 : Int) (iXor .u64 r12 (arrRd (0 : Int) b11 (2 : Int)))) fun b13 =>
  reqP (0 ≤ (2 : Int) ∧ (2 : Int) < 4) <|
  Option.bind (sh_passkeyref1_rotl ((arrRd (0 : Int) b13 (2 : Int)), (32 : Int))) fun r14 =>
  reqP (0 ≤ (2 : Int) ∧ (2 : Int) < 4) <|
  bnd (arrWr b13 (2 : Int) r14) fun b15 =>
  some b15

def sh_passkeyref1_Sum (x : Int × Int × (List Int)) : Option Int :=
  jn (α := (Arr 4 Int)) (ρ := Int) (loopLim (σ := ((Arr 4 Int) × (List Int) × Int)) (α := (Arr 4 Int) ⊕ Int) (fun s0 =>
    if (bLe s0.2.2 (s0.2.1.length : Int)) then
      jn (α := ((Arr 4 Int) × (List Int) × Int × Int)) (ρ := (((Arr 4 Int) × (List Int) × Int) ⊕ ((Arr 4 Int) ⊕ Int))) (loopLim (σ := ((Arr 4 Int) × (List Int) × Int × Int × Int)) (α := ((Arr 4 Int) × (List Int) × Int × Int) ⊕ (((Arr 4 Int) × (List Int) × Int) ⊕ ((Arr 4 Int) ⊕ Int))) (fun s2 =>
        if (bGe s2.2.2.2.2 (0 : Int)) then
          jn (α := ((Arr 4 Int) × (List Int) × Int × Int × Int)) (ρ := (((Arr 4 Int) × (List Int) × Int × Int × Int) ⊕ (((Arr 4 Int) × (List Int) × Int × Int) ⊕ (((Arr 4 Int) × (List Int) × Int) ⊕ ((Arr 4 Int) ⊕ Int))))) (
            jn (α := ((Arr 4 Int) × (List Int) × Int × Int × Int × Int)) (ρ := (((Arr 4 Int) × (List Int) × Int × Int × Int) ⊕ (((Arr 4 Int) × (List Int) × Int × Int × Int) ⊕ (((Arr 4 Int) × (List Int) × Int × Int) ⊕ (((Arr 4 Int) × (List Int) × Int) ⊕ ((Arr 4 Int) ⊕ Int)))))) (
              if (bLt (iAdd .i64 s2.2.2.1 s2.2.2.2.2) (s2.2.1.length : Int)) then
                atL s2.2.1 (iAdd .i64 s2.2.2.1 s2.2.2.2.2) fun y6 =>
                some (.inl (s2.1, s2.2.1, s2.2.2.1, s2.2.2.2.1, s2.2.2.2.2, y6))
              else
                if (bEq s2.2.2.2.2 (7 : Int)) then
                  bnd (iConv .u8 (s2.2.1.length : Int)) fun b7 =>
                  some (.inl (s2.1, s2.2.1, s2.2.2.1, s2.2.2.2.1, s2.2.2.2.2, b7))
                else
                  some (.inl (s2.1, s2.2.1, s2.2.2.1, s2.2.2.2.1, s2.2.2.2.2, (0 : Int)))
            ) fun j5 =>
            bnd (iOr .u64 (iShl .u64 j5.2.2.2.1 (8 : Int)) (iConv .u64 j5.2.2.2.2.2)) fun b8 =>
            some (.inl (j5.1, j5.2.1, j5.2.2.1, b8, j5.2.2.2.2.1))
          ) fun j4 =>
          bnd (iSub .i64 j4.2.2.2.2 (1 : Int)) fun b9 =>
          some (.inl (j4.1, j4.2.1, j4.2.2.1, j4.2.2.2.1, b9))
        else
          some (.inr (.inl (s2.1, s2.2.1, s2.2.2.1, s2.2.2.2.1)))
      ) (s0.1, s0.2.1, s0.2.2, (0 : Int), (7 : Int))) fun j3 =>
      reqP (0 ≤ (3 : Int) ∧ (3 : Int) < 4) <|
      reqP (0 ≤ (3 : Int) ∧ (3 : Int) < 4) <|
      bnd (arrWr j3.1 (3 : Int) (iXor .u64 (arrRd (0 : Int) j3.1 (3 : Int)) j3.2.2.2)) fun b10 =>
      Option.bind (sh_passkeyref1_round b10) fun r11 =>
      Option.bind (sh_passkeyref1_round r11) fun r12 =>
      reqP (0 ≤ (0 : Int) ∧ (0 : Int) < 4) <|
      reqP (0 ≤ (0 : Int) ∧ (0 : Int) < 4) <|
      bnd (arrWr r12 (0 : Int) (iXor .u64 (arrRd (0 : Int) r12 (0 : Int)) j3.2.2.2)) fun b13 =>
      bnd (iAdd .i64 j3.2.2.1 (8 : Int)) fun b14 =>
      some (.inl (b13, j3.2.1, b14))
    else
      some (.inr (.inl s0.1))
  ) ((⟨[(iXor .u64 x.1 (8317987319222330741 : Int)), (iXor .u64 x.2.1 (7237128888997146477 : Int)), (iXor .u64 x.1 (7816392313619706465 : Int)), (iXor .u64 x.2.1 (8387220255154660723 : Int))], rfl⟩ : Arr 4 Int), x.2.2, (0 : Int))) fun j1 =>
  reqP (0 ≤ (2 : Int) ∧ (2 : Int) < 4) <|
  reqP (0 ≤ (2 : Int) ∧ (2 : Int) < 4) <|
  bnd (arrWr j1 (2 : Int) (iXor .u64 (arrRd (0 : Int) j1 (2 : Int)) (255 : Int))) fun b15 =>
  Option.bind (sh_passkeyref1_round b15) fun r16 =>
  Option.bind (sh_passkeyref1_round r16) fun r17 =>
  Option.bind (sh_passkeyref1_round r17) fun r18 =>
  Option.bind (sh_passkeyref1_round r18) fun r19 =>
  reqP (0 ≤ (0 : Int) ∧ (0 : Int) < 4) <|
  reqP (0 ≤ (1 : Int) ∧ (1 : Int) < 4) <|
  reqP (0 ≤ (2 : Int) ∧ (2 : Int) < 4) <|
  reqP (0 ≤ (3 : Int) ∧ (3 : Int) < 4) <|
  bnd (iXor .u64 (iXor .u64 (iXor .u64 (arrRd (0 : Int) r19 (0 : Int)) (arrRd (0 : Int) r19 (1 : Int))) (arrRd (0 : Int) r19 (2 : Int))) (arrRd (0 : Int) r19 (3 : Int))) fun b20 =>
  some b20

def sh_passkeyref1_Hash (x : Int × (List Int)) : Option Int :=
  Option.bind (sh_passkeyref1_Sum ((iConv .u64 x.1), (0 : Int), x.2)) fun r0 =>
  some r0

def sh_passkeyref3_Run (x : Int × Int × Int × Int × Int) : Option Int :=
  bnd (iMax x.2.2.1 (0 : Int)) fun b0 =>
  jn (α := Int) (ρ := Int) (loopLim (σ := (Int × Int × Int × Int × Int)) (α := Int ⊕ Int) (fun s1 =>
    if (bLt s1.2.2.2.2 (iMin s1.2.2.1 (15 : Int))) then
      bnd (((((List.replicate 4 (0 : Int)).set 0 (iConv .u64 s1.1)).set 1 (iConv .u64 s1.2.1)).set 2 (iConv .u64 s1.2.2.2.2)).set 3 s1.2.2.2.1) fun b3 =>
      Option.bind (sh_passkeyref1_Words b3) fun r4 =>
      Option.bind (sh_passkeyref1_Hash ((1 : Int), r4)) fun r5 =>
      bnd (iAdd .i64 s1.2.2.2.2 (1 : Int)) fun b6 =>
      some (.inl (s1.1, s1.2.1, s1.2.2.1, r5, b6))
    else
      some (.inr (.inl s1.2.2.2.1))
  ) (x.1, x.2.1, x.2.2.2.1, x.2.2.2.2, b0)) fun j2 =>
  some j2

def sh_passkeylaw3_OnetimeRuns (x : Int × Int × Int × Int × Int) : Option Bool :=
  Option.bind (sh_onetime_Run (x.1, x.2.1, x.2.2.1, x.2.2.2.1, x.2.2.2.2)) fun r0 =>
  Option.bind (sh_passkeyref3_Run (x.1, x.2.1, x.2.2.1, x.2.2.2.1, x.2.2.2.2)) fun r1 =>
  if (bEq r0 r1) then
    Option.bind (sh_onetime_Run ((iAnd .i64 x.1 (15 : Int)), (iAnd .i64 x.2.1 (31 : Int)), (iSub .i64 (iAnd .i64 x.2.2.1 (31 : Int)) (8 : Int)), (iSub .i64 (iAnd .i64 x.2.2.2.1 (31 : Int)) (8 : Int)), x.2.2.2.2)) fun r2 =>
    Option.bind (sh_passkeyref3_Run ((iAnd .i64 x.1 (15 : Int)), (iAnd .i64 x.2.1 (31 : Int)), (iSub .i64 (iAnd .i64 x.2.2.1 (31 : Int)) (8 : Int)), (iSub .i64 (iAnd .i64 x.2.2.2.1 (31 : Int)) (8 : Int)), x.2.2.2.2)) fun r3 =>
    if (bEq r2 r3) then
      Option.bind (sh_passkeylaw3_awake ()) fun r4 =>
      some r4
    else
      some false
  else
    some false

def sh_passkeylaw3_OnetimeForward (x : Int × Int × Int × Int × Int × Int) : Option Bool :=
  bnd (iConv .i64 (iRem .u8 x.2.2.1 (16 : Int))) fun b0 =>
  bnd (iAdd .i64 b0 (iConv .i64 (iRem .u8 x.2.2.2.1 (16 : Int)))) fun b1 =>
  bnd (iAdd .i64 b1 (iConv .i64 (iRem .u8 x.2.2.2.2.1 (16 : Int)))) fun b2 =>
  Option.bind (sh_onetime_Run ((iConv .i64 x.1), (iConv .i64 x.2.1), b0, b2, x.2.2.2.2.2)) fun r3 =>
  Option.bind (sh_onetime_Run ((iConv .i64 x.1), (iConv .i64 x.2.1), b0, b1, x.2.2.2.2.2)) fun r4 =>
  Option.bind (sh_onetime_Run ((iConv .i64 x.1), (iConv .i64 x.2.1), b1, b2, r4)) fun r5 =>
  if (bEq r3 r5) then
    Option.bind (sh_passkeylaw3_awake ()) fun r6 =>
    some r6
  else
    some false

def sh_digest_Mac (x : Int × Int × (List Int)) : Option Int :=
  Option.bind (sh_digest_Sum (x.1, (iAdd .u64 (1 : Int) (iConv .u64 x.2.1)), x.2.2)) fun r0 =>
  some r0

def sh_onetime_Secret (x : Int × Int × Int) : Option Int :=
  bnd (((List.replicate 2 (0 : Int)).set 0 (iConv .u64 x.2.1)).set 1 (iConv .u64 x.2.2)) fun b0 =>
  Option.bind (sh_digest_Words b0) fun r1 =>
  Option.bind (sh_digest_Mac (x.1, (1 : Int), r1)) fun r2 =>
  some r2

def sh_passkeyref1_Mac (x : Int × Int × (List Int)) : Option Int :=
  Option.bind (sh_passkeyref1_Sum (x.1, (iAdd .u64 (1 : Int) (iConv .u64 x.2.1)), x.2.2)) fun r0 =>
  some r0

def sh_passkeyref3_Secret (x : Int × Int × Int) : Option Int :=
  bnd (((List.replicate 2 (0 : Int)).set 0 (iConv .u64 x.2.1)).set 1 (iConv .u64 x.2.2)) fun b0 =>
  Option.bind (sh_passkeyref1_Words b0) fun r1 =>
  Option.bind (sh_passkeyref1_Mac (x.1, (1 : Int), r1)) fun r2 =>
  some r2

def sh_onetime_at (x : Int × Int × (Arr 18 Int)) : Option (Arr 18 Int) :=
  jn (α := (Arr 18 Int)) (ρ := (Arr 18 Int)) (loopLim (σ := ((Arr 18 Int) × (Arr 18 Int) × Int × Int × Int)) (α := (Arr 18 Int) ⊕ (Arr 18 Int)) (fun s0 =>
    if (bLt s0.2.2.2.2 (18 : Int)) then
      reqP (0 ≤ s0.2.2.2.2 ∧ s0.2.2.2.2 < 18) <|
      Option.bind (sh_onetime_Secret (s0.2.2.1, s0.2.2.2.1, s0.2.2.2.2)) fun r2 =>
      Option.bind (sh_onetime_Run (s0.2.2.2.1, s0.2.2.2.2, (0 : Int), (arrRd (0 : Int) s0.1 s0.2.2.2.2), r2)) fun r3 =>
      reqP (0 ≤ s0.2.2.2.2 ∧ s0.2.2.2.2 < 18) <|
      bnd (arrWr s0.2.1 s0.2.2.2.2 r3) fun b4 =>
      bnd (iAdd .i64 s0.2.2.2.2 (1 : Int)) fun b5 =>
      some (.inl (s0.1, b4, s0.2.2.1, s0.2.2.2.1, b5))
    else
      some (.inr (.inl s0.2.1))
  ) (x.2.2, (⟨[(0 : Int), (0 : Int), (0 : Int), (0 : Int), (0 : Int), (0 : Int), (0 : Int), (0 : Int), (0 : Int), (0 : Int), (0 : Int), (0 : Int), (0 : Int), (0 : Int), (0 : Int), (0 : Int), (0 : Int), (0 : Int)], rfl⟩ : Arr 18 Int), x.1, x.2.1, (0 : Int))) fun j1 =>
  some j1

def sh_onetime_word (x : Int × (Arr 18 Int)) : Option Int :=
  bnd ((List.replicate 1 (0 : Int)).set 0 (iConv .u64 x.1)) fun b0 =>
  reqP ((b0.length + x.2.1.length) * 8 ≤ 140737488355328) <|
  bnd (b0 ++ x.2.1) fun b1 =>
  Option.bind (sh_digest_Words b1) fun r2 =>
  Option.bind (sh_digest_Hash ((2 : Int), r2)) fun r3 =>
  some r3

def sh_onetime_Public (x : Int × Int) : Option Int :=
  jn (α := ((Arr 18 Int) × Int × Int)) (ρ := Int) (loopLim (σ := ((Arr 18 Int) × Int × Int × Int)) (α := ((Arr 18 Int) × Int × Int) ⊕ Int) (fun s0 =>
    if (bLt s0.2.2.2 (18 : Int)) then
      reqP (0 ≤ s0.2.2.2 ∧ s0.2.2.2 < 18) <|
      bnd (arrWr s0.1 s0.2.2.2 (15 : Int)) fun b2 =>
      bnd (iAdd .i64 s0.2.2.2 (1 : Int)) fun b3 =>
      some (.inl (b2, s0.2.1, s0.2.2.1, b3))
    else
      some (.inr (.inl (s0.1, s0.2.1, s0.2.2.1)))
  ) ((⟨[(0 : Int), (0 : Int), (0 : Int), (0 : Int), (0 : Int), (0 : Int), (0 : Int), (0 : Int), (0 : Int), (0 : Int), (0 : Int), (0 : Int), (0 : Int), (0 : Int), (0 : Int), (0 : Int), (0 : Int), (0 : Int)], rfl⟩ : Arr 18 Int), x.1, x.2, (0 : Int))) fun j1 =>
  Option.bind (sh_onetime_at (j1.2.1, j1.2.2, j1.1)) fun r4 =>
  Option.bind (sh_onetime_word (j1.2.2, r4)) fun r5 =>
  some r5

def sh_passkeyref3_ends (x : Int × (List Int)) : Option Int :=
  bnd ((List.replicate 1 (0 : Int)).set 0 (iConv .u64 x.1)) fun b0 =>
  Option.bind (sh_passkeyref1_Words b0) fun r1 =>
  Option.bind (sh_passkeyref1_Words x.2) fun r2 =>
  reqP ((r1.length + r2.length) * 1 ≤ 140737488355328) <|
  bnd (r1 ++ r2) fun b3 =>
  Option.bind (sh_passkeyref1_Hash ((2 : Int), b3)) fun r4 =>
  some r4

def sh_passkeyref3_Leaf (x : Int × Int) : Option Int :=
  jn (α := ((List Int) × Int)) (ρ := Int) (loopLim (σ := ((List Int) × Int × Int × Int)) (α := ((List Int) × Int) ⊕ Int) (fun s0 =>
    if (bLt s0.2.2.2 (18 : Int)) then
      Option.bind (sh_passkeyref3_Secret (s0.2.1, s0.2.2.1, s0.2.2.2)) fun r2 =>
      Option.bind (sh_passkeyref3_Run (s0.2.2.1, s0.2.2.2, (0 : Int), (15 : Int), r2)) fun r3 =>
      bnd ((List.replicate 1 (0 : Int)).set 0 r3) fun b4 =>
      reqP ((s0.1.length + b4.length) * 8 ≤ 140737488355328) <|
      bnd (s0.1 ++ b4) fun b5 =>
      bnd (iAdd .i64 s0.2.2.2 (1 : Int)) fun b6 =>
      some (.inl (b5, s0.2.1, s0.2.2.1, b6))
    else
      some (.inr (.inl (s0.1, s0.2.2.1)))
  ) (([] : List Int), x.1, x.2, (0 : Int))) fun j1 =>
  Option.bind (sh_passkeyref3_ends (j1.2, j1.1)) fun r7 =>
  some r7

def sh_passkeylaw3_OnetimeKeys (x : Int × Int × Int) : Option Bool :=
  Option.bind (sh_onetime_Secret (x.1, x.2.1, x.2.2)) fun r0 =>
  Option.bind (sh_passkeyref3_Secret (x.1, x.2.1, x.2.2)) fun r1 =>
  if (bEq r0 r1) then
    Option.bind (sh_onetime_Public (x.1, x.2.1)) fun r2 =>
    Option.bind (sh_passkeyref3_Leaf (x.1, x.2.1)) fun r3 =>
    if (bEq r2 r3) then
      Option.bind (sh_passkeylaw3_awake ()) fun r4 =>
      some r4
    else
      some false
  else
    some false

def sh_onetime_Sign (x : Int × Int × Int) : Option (List Int) :=
  Option.bind (sh_onetime_split x.2.2) fun r0 =>
  Option.bind (sh_onetime_at (x.1, x.2.1, r0)) fun r1 =>
  some r1.1

def sh_passkeyref3_SignLeaf (x : Int × Int × Int) : Option (List Int) :=
  Option.bind (sh_passkeyref3_Split x.2.2) fun r0 =>
  jn (α := (List Int)) (ρ := (List Int)) (loopLim (σ := ((List Int) × (List Int) × Int × Int × Int)) (α := (List Int) ⊕ (List Int)) (fun s1 =>
    if (bLt s1.2.2.2.2 (18 : Int)) then
      reqP (0 ≤ s1.2.2.2.2 ∧ s1.2.2.2.2 < (s1.1.length : Int)) <|
      Option.bind (sh_passkeyref3_Secret (s1.2.2.1, s1.2.2.2.1, s1.2.2.2.2)) fun r3 =>
      Option.bind (sh_passkeyref3_Run (s1.2.2.2.1, s1.2.2.2.2, (0 : Int), (s1.1.getD s1.2.2.2.2.toNat (0 : Int)), r3)) fun r4 =>
      bnd ((List.replicate 1 (0 : Int)).set 0 r4) fun b5 =>
      reqP ((s1.2.1.length + b5.length) * 8 ≤ 140737488355328) <|
      bnd (s1.2.1 ++ b5) fun b6 =>
      bnd (iAdd .i64 s1.2.2.2.2 (1 : Int)) fun b7 =>
      some (.inl (s1.1, b6, s1.2.2.1, s1.2.2.2.1, b7))
    else
      some (.inr (.inl s1.2.1))
  ) (r0, ([] : List Int), x.1, x.2.1, (0 : Int))) fun j2 =>
  some j2

def sh_onetime_Recover (x : Int × Int × (List Int)) : Option (Int × Int) :=
  if (bNe (x.2.2.length : Int) (18 : Int)) then
    some ((0 : Int), (4 : Int))
  else
    Option.bind (sh_onetime_split x.2.1) fun r0 =>
    jn (α := ((Arr 18 Int) × Int)) (ρ := (Int × Int)) (loopLim (σ := ((Arr 18 Int) × (Arr 18 Int) × Int × (List Int) × Int)) (α := ((Arr 18 Int) × Int) ⊕ (Int × Int)) (fun s1 =>
      if (bLt s1.2.2.2.2 (18 : Int)) then
        reqP (0 ≤ s1.2.2.2.2 ∧ s1.2.2.2.2 < 18) <|
        atL s1.2.2.2.1 s1.2.2.2.2 fun y3 =>
        Option.bind (sh_onetime_Run (s1.2.2.1, s1.2.2.2.2, (arrRd (0 : Int) s1.1 s1.2.2.2.2), (15 : Int), y3)) fun r4 =>
        reqP (0 ≤ s1.2.2.2.2 ∧ s1.2.2.2.2 < 18) <|
        bnd (arrWr s1.2.1 s1.2.2.2.2 r4) fun b5 =>
        bnd (iAdd .i64 s1.2.2.2.2 (1 : Int)) fun b6 =>
        some (.inl (s1.1, b5, s1.2.2.1, s1.2.2.2.1, b6))
      else
        some (.inr (.inl (s1.2.1, s1.2.2.1)))
    ) (r0, (⟨[(0 : Int), (0 : Int), (0 : Int), (0 : Int), (0 : Int), (0 : Int), (0 : Int), (0 : Int), (0 : Int), (0 : Int), (0 : Int), (0 : Int), (0 : Int), (0 : Int), (0 : Int), (0 : Int), (0 : Int), (0 : Int)], rfl⟩ : Arr 18 Int), x.1, x.2.2, (0 : Int))) fun j2 =>
    Option.bind (sh_onetime_word (j2.2, j2.1)) fun r7 =>
    some (r7, (0 : Int))

def sh_passkeyref3_Recover (x : Int × Int × (List Int)) : Option (Int × Int) :=
  if (bNe (x.2.2.length : Int) (18 : Int)) then
    some ((0 : Int), (4 : Int))
  else
    Option.bind (sh_passkeyref3_Split x.2.1) fun r0 =>
    jn (α := ((List Int) × Int)) (ρ := (Int × Int)) (loopLim (σ := ((List Int) × (List Int) × Int × (List Int) × Int)) (α := ((List Int) × Int) ⊕ (Int × Int)) (fun s1 =>
      if (bLt s1.2.2.2.2 (18 : Int)) then
        reqP (0 ≤ s1.2.2.2.2 ∧ s1.2.2.2.2 < (s1.1.length : Int)) <|
        atL s1.2.2.2.1 s1.2.2.2.2 fun y3 =>
        Option.bind (sh_passkeyref3_Run (s1.2.2.1, s1.2.2.2.2, (s1.1.getD s1.2.2.2.2.toNat (0 : Int)), (15 : Int), y3)) fun r4 =>
        bnd ((List.replicate 1 (0 : Int)).set 0 r4) fun b5 =>
        reqP ((s1.2.1.length + b5.length) * 8 ≤ 140737488355328) <|
        bnd (s1.2.1 ++ b5) fun b6 =>
        bnd (iAdd .i64 s1.2.2.2.2 (1 : Int)) fun b7 =>
        some (.inl (s1.1, b6, s1.2.2.1, s1.2.2.2.1, b7))
      else
        some (.inr (.inl (s1.2.1, s1.2.2.1)))
    ) (r0, ([] : List Int), x.1, x.2.2, (0 : Int))) fun j2 =>
    Option.bind (sh_passkeyref3_ends (j2.2, j2.1)) fun r8 =>
    some (r8, (0 : Int))

def sh_passkeylaw3_OnetimeBack (x : Int × Int × Int) : Option Bool :=
  Option.bind (sh_onetime_Sign (x.1, x.2.1, x.2.2)) fun r0 =>
  Option.bind (sh_onetime_Recover (x.2.1, x.2.2, r0)) fun r1 =>
  if (bEq r1.2 (0 : Int)) then
    Option.bind (sh_onetime_Public (x.1, x.2.1)) fun r2 =>
    if (bEq r1.1 r2) then
      Option.bind (sh_passkeylaw3_awake ()) fun r3 =>
      some r3
    else
      some false
  else
    some false
end
end Go.Vm
