/- What the functions compute. PRINTED by a program of this session's. -/
import Derived.Test.YtleemhgnapoofaaV5
set_option linter.unusedVariables false
namespace Go.Vm
noncomputable section
def sh_onetime_split (x : Int) : Option (Arr 18 Int) :=
  jn (α := ((Arr 18 Int) × Int)) (ρ := (Arr 18 Int)) (loopLim (σ := ((Arr 18 Int) × Int × Int × Int)) (α := ((Arr 18 Int) × Int) ⊕ (Arr 18 Int)) (fun s0 =>
    if (bLt s0.2.2.2 (16 : Int)) then
      reqP (0 ≤ (iSub .i64 (60 : Int) (iMul .i64 (4 : Int) s0.2.2.2))) <|
      reqP (0 ≤ s0.2.2.2 ∧ s0.2.2.2 < 18) <|
      bnd (arrWr s0.1 s0.2.2.2 (iConv .i64 (iAnd .u64 (iShr .u64 s0.2.1 (iSub .i64 (60 : Int) (iMul .i64 (4 : Int) s0.2.2.2))) (15 : Int)))) fun b2 =>
      reqP (0 ≤ s0.2.2.2 ∧ s0.2.2.2 < 18) <|
      bnd (iAdd .i64 s0.2.2.1 (iSub .i64 (15 : Int) (arrRd (0 : Int) b2 s0.2.2.2))) fun b3 =>
      bnd (iAdd .i64 s0.2.2.2 (1 : Int)) fun b4 =>
      some (.inl (b2, s0.2.1, b3, b4))
    else
      some (.inr (.inl (s0.1, s0.2.2.1)))
  ) ((⟨[(0 : Int), (0 : Int), (0 : Int), (0 : Int), (0 : Int), (0 : Int), (0 : Int), (0 : Int), (0 : Int), (0 : Int), (0 : Int), (0 : Int), (0 : Int), (0 : Int), (0 : Int), (0 : Int), (0 : Int), (0 : Int)], rfl⟩ : Arr 18 Int), x, (0 : Int), (0 : Int))) fun j1 =>
  reqP (0 ≤ (16 : Int) ∧ (16 : Int) < 18) <|
  bnd (arrWr j1.1 (16 : Int) (iQuo .i64 j1.2 (16 : Int))) fun b5 =>
  reqP (0 ≤ (17 : Int) ∧ (17 : Int) < 18) <|
  bnd (arrWr b5 (17 : Int) (iRem .i64 j1.2 (16 : Int))) fun b6 =>
  some b6

def sh_onetime_Split (x : Int) : Option (List Int) :=
  Option.bind (sh_onetime_split x) fun r0 =>
  some r0.1

def sh_passkeyref3_Split (x : Int) : Option (List Int) :=
  jn (α := ((List Int) × Int)) (ρ := (List Int)) (loopLim (σ := ((List Int) × Int × Int × Int)) (α := ((List Int) × Int) ⊕ (List Int)) (fun s0 =>
    if (bGe s0.2.2.2 (0 : Int)) then
      reqP (0 ≤ (iConv .u64 (iMul .i64 (4 : Int) s0.2.2.2))) <|
      bnd (iConv .i64 (iAnd .u64 (iShr .u64 s0.2.1 (iConv .u64 (iMul .i64 (4 : Int) s0.2.2.2))) (15 : Int))) fun b2 =>
      bnd ((List.replicate 1 (0 : Int)).set 0 b2) fun b3 =>
      reqP ((s0.1.length + b3.length) * 8 ≤ 140737488355328) <|
      bnd (s0.1 ++ b3) fun b4 =>
      bnd (iAdd .i64 s0.2.2.1 (iSub .i64 (15 : Int) b2)) fun b5 =>
      bnd (iSub .i64 s0.2.2.2 (1 : Int)) fun b6 =>
      some (.inl (b4, s0.2.1, b5, b6))
    else
      some (.inr (.inl (s0.1, s0.2.2.1)))
  ) (([] : List Int), x, (0 : Int), (15 : Int))) fun j1 =>
  bnd (((List.replicate 2 (0 : Int)).set 0 (iQuo .i64 j1.2 (16 : Int))).set 1 (iRem .i64 j1.2 (16 : Int))) fun b7 =>
  reqP ((j1.1.length + b7.length) * 8 ≤ 140737488355328) <|
  bnd (j1.1 ++ b7) fun b8 =>
  some b8

def sh_passkeylaw3_ints (x : (List Int) × (List Int)) : Option Bool :=
  if (bNe (x.1.length : Int) (x.2.length : Int)) then
    some false
  else
    jn (α := (Unit)) (ρ := Bool) (loopLim (σ := ((List Int) × (List Int) × Int)) (α := (Unit) ⊕ Bool) (fun s0 =>
      if (bLt s0.2.2 (s0.1.length : Int)) then
        atL s0.1 s0.2.2 fun y2 =>
        atL s0.2.1 s0.2.2 fun y3 =>
        if (bNe y2 y3) then
          some (.inr (.inr false))
        else
          bnd (iAdd .i64 s0.2.2 (1 : Int)) fun b4 =>
          some (.inl (s0.1, s0.2.1, b4))
      else
        some (.inr (.inl ()))
    ) (x.1, x.2, (0 : Int))) fun j1 =>
    some true

def sh_digest_Words (x : (List Int)) : Option (List Int) :=
  jn (α := (List Int)) (ρ := (List Int)) (loopLim (σ := ((List Int) × (List Int) × Int × Int)) (α := (List Int) ⊕ (List Int)) (fun s0 =>
    if (bLt s0.2.2.2 s0.2.2.1) then
      atL s0.2.1 s0.2.2.2 fun y2 =>
      jn (α := ((List Int) × (List Int) × Int × Int)) (ρ := (((List Int) × (List Int) × Int × Int) ⊕ ((List Int) ⊕ (List Int)))) (loopLim (σ := ((List Int) × Int × (List Int) × Int × Int × Int)) (α := ((List Int) × (List Int) × Int × Int) ⊕ (((List Int) × (List Int) × Int × Int) ⊕ ((List Int) ⊕ (List Int)))) (fun s3 =>
        if (bLt s3.2.2.2.2.2 (8 : Int)) then
          reqP (0 ≤ (iSub .i64 (56 : Int) (iMul .i64 (8 : Int) s3.2.2.2.2.2))) <|
          bnd ((List.replicate 1 (0 : Int)).set 0 (iConv .u8 (iShr .u64 s3.2.1 (iSub .i64 (56 : Int) (iMul .i64 (8 : Int) s3.2.2.2.2.2))))) fun b5 =>
          reqP ((s3.1.length + b5.length) * 1 ≤ 140737488355328) <|
          bnd (s3.1 ++ b5) fun b6 =>
          bnd (iAdd .i64 s3.2.2.2.2.2 (1 : Int)) fun b7 =>
          some (.inl (b6, s3.2.1, s3.2.2.1, s3.2.2.2.1, s3.2.2.2.2.1, b7))
        else
          some (.inr (.inl (s3.1, s3.2.2.1, s3.2.2.2.1, s3.2.2.2.2.1)))
      ) (s0.1, y2, s0.2.1, s0.2.2.1, s0.2.2.2, (0 : Int))) fun j4 =>
      bnd (iAdd .i64 j4.2.2.2 (1 : Int)) fun b8 =>
      some (.inl (j4.1, j4.2.1, j4.2.2.1, b8))
    else
      some (.inr (.inl s0.1))
  ) (([] : List Int), x, (x.length : Int), (0 : Int))) fun j1 =>
  some j1

def sh_digest_little (x : (List Int)) : Option Int :=
  jn (α := Int) (ρ := Int) (loopLim (σ := (Int × (List Int) × Int × Int)) (α := Int ⊕ Int) (fun s0 =>
    if (bLt s0.2.2.2 s0.2.2.1) then
      atL s0.2.1 s0.2.2.2 fun y2 =>
      reqP (0 ≤ (iMul .i64 (8 : Int) s0.2.2.2)) <|
      bnd (iOr .u64 s0.1 (iShl .u64 (iConv .u64 y2) (iMul .i64 (8 : Int) s0.2.2.2))) fun b3 =>
      bnd (iAdd .i64 s0.2.2.2 (1 : Int)) fun b4 =>
      some (.inl (b3, s0.2.1, s0.2.2.1, b4))
    else
      some (.inr (.inl s0.1))
  ) ((0 : Int), x, (x.length : Int), (0 : Int))) fun j1 =>
  some j1

def sh_math_bits_RotateLeft64 (x : Int × Int) : Option Int :=
  bnd (iAnd .u64 (iConv .u64 x.2) (63 : Int)) fun b0 =>
  reqP (0 ≤ b0) <|
  reqP (0 ≤ (iSub .u64 (64 : Int) b0)) <|
  bnd (iOr .u64 (iShl .u64 x.1 b0) (iShr .u64 x.1 (iSub .u64 (64 : Int) b0))) fun b1 =>
  some b1

def sh___passkey_digest_state__round (x : Int × Int × Int × Int × Int) : Option (Int × Int × Int × Int) :=
  jn (α := (Int × Int × Int × Int)) (ρ := (Int × Int × Int × Int)) (loopLim (σ := (Int × Int × Int × Int × Int × Int)) (α := (Int × Int × Int × Int) ⊕ (Int × Int × Int × Int)) (fun s0 =>
    if (bLt s0.2.2.2.2.2 s0.2.2.2.2.1) then
      bnd (iAdd .u64 s0.1 s0.2.1) fun b2 =>
      Option.bind (sh_math_bits_RotateLeft64 (s0.2.1, (13 : Int))) fun r3 =>
      bnd (iXor .u64 r3 b2) fun b4 =>
      Option.bind (sh_math_bits_RotateLeft64 (b2, (32 : Int))) fun r5 =>
      bnd (iAdd .u64 s0.2.2.1 s0.2.2.2.1) fun b6 =>
      Option.bind (sh_math_bits_RotateLeft64 (s0.2.2.2.1, (16 : Int))) fun r7 =>
      bnd (iXor .u64 r7 b6) fun b8 =>
      bnd (iAdd .u64 r5 b8) fun b9 =>
      Option.bind (sh_math_bits_RotateLeft64 (b8, (21 : Int))) fun r10 =>
      bnd (iXor .u64 r10 b9) fun b11 =>
      bnd (iAdd .u64 b6 b4) fun b12 =>
      Option.bind (sh_math_bits_RotateLeft64 (b4, (17 : Int))) fun r13 =>
      bnd (iXor .u64 r13 b12) fun b14 =>
      Option.bind (sh_math_bits_RotateLeft64 (b12, (32 : Int))) fun r15 =>
      bnd (iAdd .i64 s0.2.2.2.2.2 (1 : Int)) fun b16 =>
      some (.inl (b9, b14, r15, b11, s0.2.2.2.2.1, b16))
    else
      some (.inr (.inl (s0.1, s0.2.1, s0.2.2.1, s0.2.2.2.1)))
  ) (x.1, x.2.1, x.2.2.1, x.2.2.2.1, x.2.2.2.2, (0 : Int))) fun j1 =>
  some (j1.1, j1.2.1, j1.2.2.1, j1.2.2.2)

def sh___passkey_digest_state__word (x : Int × Int × Int × Int × Int) : Option (Int × Int × Int × Int) :=
  bnd (iXor .u64 x.2.2.2.1 x.2.2.2.2) fun b0 =>
  Option.bind (sh___passkey_digest_state__round (x.1, x.2.1, x.2.2.1, b0, (2 : Int))) fun r1 =>
  bnd (iXor .u64 r1.1 x.2.2.2.2) fun b2 =>
  some (b2, r1.2.1, r1.2.2.1, r1.2.2.2)

def sh_digest_Sum (x : Int × Int × (List Int)) : Option Int :=
  bnd (iShl .u64 (iConv .u64 (x.2.2.length : Int)) (56 : Int)) fun b0 =>
  jn (α := (Int × Int × Int × Int × (List Int) × Int)) (ρ := Int) (loopLim (σ := (Int × Int × Int × Int × (List Int) × Int)) (α := (Int × Int × Int × Int × (List Int) × Int) ⊕ Int) (fun s1 =>
    if (bGe (s1.2.2.2.2.1.length : Int) (8 : Int)) then
      reqP (0 ≤ (8 : Int) ∧ (8 : Int) ≤ (s1.2.2.2.2.1.length : Int)) <|
      Option.bind (sh_digest_little (s1.2.2.2.2.1.take (8 : Int).toNat)) fun r3 =>
      Option.bind (sh___passkey_digest_state__word (s1.1, s1.2.1, s1.2.2.1, s1.2.2.2.1, r3)) fun r4 =>
      reqP (0 ≤ (8 : Int) ∧ (8 : Int) ≤ (s1.2.2.2.2.1.length : Int)) <|
      some (.inl (r4.1, r4.2.1, r4.2.2.1, r4.2.2.2, (s1.2.2.2.2.1.drop (8 : Int).toNat), s1.2.2.2.2.2))
    else
      some (.inr (.inl (s1.1, s1.2.1, s1.2.2.1, s1.2.2.2.1, s1.2.2.2.2.1, s1.2.2.2.2.2)))
  ) ((iXor .u64 x.1 (8317987319222330741 : Int)), (iXor .u64 x.2.1 (7237128888997146477 : Int)), (iXor .u64 x.1 (7816392313619706465 : Int)), (iXor .u64 x.2.1 (8387220255154660723 : Int)), x.2.2, b0)) fun j2 =>
  Option.bind (sh_digest_little j2.2.2.2.2.1) fun r5 =>
  Option.bind (sh___passkey_digest_state__word (j2.1, j2.2.1, j2.2.2.1, j2.2.2.2.1, (iOr .u64 j2.2.2.2.2.2 r5))) fun r6 =>
  bnd (iXor .u64 r6.2.2.1 (255 : Int)) fun b7 =>
  Option.bind (sh___passkey_digest_state__round (r6.1, r6.2.1, b7, r6.2.2.2, (4 : Int))) fun r8 =>
  bnd (iXor .u64 (iXor .u64 (iXor .u64 r8.1 r8.2.1) r8.2.2.1) r8.2.2.2) fun b9 =>
  some b9

def sh_digest_Hash (x : Int × (List Int)) : Option Int :=
  Option.bind (sh_digest_Sum ((iConv .u64 x.1), (0 : Int), x.2)) fun r0 =>
  some r0

def sh_onetime_Run (x : Int × Int × Int × Int × Int) : Option Int :=
  bnd (iMax x.2.2.1 (0 : Int)) fun b0 =>
  jn (α := Int) (ρ := Int) (loopLim (σ := (Int × Int × Int × Int × Int)) (α := Int ⊕ Int) (fun s1 =>
    if (bLt s1.2.2.2.2 (iMin s1.2.2.1 (15 : Int))) then
      bnd (((((List.replicate 4 (0 : Int)).set 0 (iConv .u64 s1.1)).set 1 (iConv .u64 s1.2.1)).set 2 (iConv .u64 s1.2.2.2.2)).set 3 s1.2.2.2.1) fun b3 =>
      Option.bind (sh_digest_Words b3) fun r4 =>
      Option.bind (sh_digest_Hash ((1 : Int), r4)) fun r5 =>
      bnd (iAdd .i64 s1.2.2.2.2 (1 : Int)) fun b6 =>
      some (.inl (s1.1, s1.2.1, s1.2.2.1, r5, b6))
    else
      some (.inr (.inl s1.2.2.2.1))
  ) (x.1, x.2.1, x.2.2.2.1, x.2.2.2.2, b0)) fun j2 =>
  some j2

def sh_passkeylaw3_awake (x : Unit) : Option Bool :=
  Option.bind (sh_onetime_Split (0 : Int)) fun r0 =>
  Option.bind (sh_onetime_Split (18446744073709551615 : Int)) fun r1 =>
  if (bEq (r0.length : Int) (18 : Int)) then
    if (bEq (r1.length : Int) (18 : Int)) then
      reqP (0 ≤ (0 : Int) ∧ (0 : Int) < (r0.length : Int)) <|
      if (bEq (r0.getD (0 : Int).toNat (0 : Int)) (0 : Int)) then
        reqP (0 ≤ (16 : Int) ∧ (16 : Int) < (r0.length : Int)) <|
        if (bEq (r0.getD (16 : Int).toNat (0 : Int)) (15 : Int)) then
          reqP (0 ≤ (17 : Int) ∧ (17 : Int) < (r0.length : Int)) <|
          if (bEq (r0.getD (17 : Int).toNat (0 : Int)) (0 : Int)) then
            reqP (0 ≤ (0 : Int) ∧ (0 : Int) < (r1.length : Int)) <|
            if (bEq (r1.getD (0 : Int).toNat (0 : Int)) (15 : Int)) then
              reqP (0 ≤ (16 : Int) ∧ (16 : Int) < (r1.length : Int)) <|
              if (bEq (r1.getD (16 : Int).toNat (0 : Int)) (0 : Int)) then
                reqP (0 ≤ (17 : Int) ∧ (17 : Int) < (r1.length : Int)) <|
                if (bEq (r1.getD (17 : Int).toNat (0 : Int)) (0 : Int)) then
                  Option.bind (sh_onetime_Run ((1 : Int), (2 : Int), (5 : Int), (5 : Int), (9 : Int))) fun r2 =>
                  bnd (bEq r2 (9 : Int)) fun b3 =>
                  some b3
                else
                  some false
              else
                some false
            else
              some false
          else
            some false
        else
          some false
      else
        some false
    else
      some false
  else
    some false

def sh_passkeylaw3_OnetimeSplits (x : Int) : Option Bool :=
  Option.bind (sh_onetime_Split x) fun r0 =>
  Option.bind (sh_passkeyref3_Split x) fun r1 =>
  Option.bind (sh_passkeylaw3_ints (r0, r1)) fun r2 =>
  if r2 then
    Option.bind (sh_passkeylaw3_awake ()) fun r3 =>
    some r3
  else
    some false

def sh_passkeyref1_Words (x : (List Int)) : Option (List Int) :=
  jn (α := (List Int)) (ρ := (List Int)) (loopLim (σ := ((List Int) × (List Int) × Int)) (α := (List Int) ⊕ (List Int)) (fun s0 =>
    if (bLt s0.2.2 (s0.2.1.length : Int)) then
      jn (α := ((List Int) × (List Int) × Int)) (ρ := (((List Int) × (List Int) × Int) ⊕ ((List Int) ⊕ (List Int)))) (loopLim (σ := ((List Int) × (List Int) × Int × Int)) (α := ((List Int) × (List Int) × Int) ⊕ (((List Int) × (List Int) × Int) ⊕ ((List Int) ⊕ (List Int)))) (fun s2 =>
        if (bGe s2.2.2.2 (0 : Int)) then
          atL s2.2.1 s2.2.2.1 fun y4 =>
          reqP (0 ≤ (iConv .u64 (iMul .i64 (8 : Int) s2.2.2.2))) <|
          bnd ((List.replicate 1 (0 : Int)).set 0 (iConv .u8 (iShr .u64 y4 (iConv .u64 (iMul .i64 (8 : Int) s2.2.2.2))))) fun b5 =>
          reqP ((s2.1.length + b5.length) * 1 ≤ 140737488355328) <|
          bnd (s2.1 ++ b5) fun b6 =>
          bnd (iSub .i64 s2.2.2.2 (1 : Int)) fun b7 =>
          some (.inl (b6, s2.2.1, s2.2.2.1, b7))
        else
          some (.inr (.inl (s2.1, s2.2.1, s2.2.2.1)))
      ) (s0.1, s0.2.1, s0.2.2, (7 : Int))) fun j3 =>
      bnd (iAdd .i64 j3.2.2 (1 : Int)) fun b8 =>
      some (.inl (j3.1, j3.2.1, b8))
    else
      some (.inr (.inl s0.1))
  ) (([] : List Int), x, (0 : Int))) fun j1 =>
  some j1

def sh_passkeyref1_rotl (x : Int × Int) : Option Int :=
  reqP (0 ≤ x.2) <|
  reqP (0 ≤ (iSub .u64 (64 : Int) x.2)) <|
  bnd (iOr .u64 (iShl .u64 x.1 x.2) (iShr .u64 x.1 (iSub .u64 (64 : Int) x.2))) fun b0 =>
  some b0

def sh_passkeyref1_round (x : (Arr 4 Int)) : Option (Arr 4 Int) :=
  reqP (0 ≤ (0 : Int) ∧ (0 : Int) < 4) <|
  reqP (0 ≤ (1 : Int) ∧ (1 : Int) < 4) <|
  reqP (0 ≤ (0 : Int) ∧ (0 : Int) < 4) <|
  bnd (arrWr x (0 : Int) (iAdd .u64 (arrRd (0 : Int) x (0 : Int)) (arrRd (0 : Int) x (1 : Int)))) fun b0 =>
  reqP (0 ≤ (1 : Int) ∧ (1 : Int) < 4) <|
  Option.bind (sh_passkeyref1_rotl ((arrRd (0 : Int) b0 (1 : Int)), (13 : Int))) fun r1 =>
  reqP (0 ≤ (0 : Int) ∧ (0 : Int) < 4) <|
  reqP (0 ≤ (1 : Int) ∧ (1 : Int) < 4) <|
  bnd (arrWr b0 (1 : Int) (iXor .u64 r1 (arrRd (0 : Int) b0 (0 : Int)))) fun b2 =>
  reqP (0 ≤ (0 : Int) ∧ (0 : Int) < 4) <|
  Option.bind (sh_passkeyref1_rotl ((arrRd (0 : Int) b2 (0 : Int)), (32 : Int))) fun r3 =>
  reqP (0 ≤ (0 : Int) ∧ (0 : Int) < 4) <|
  bnd (arrWr b2 (0 : Int) r3) fun b4 =>
  reqP (0 ≤ (2 : Int) ∧ (2 : Int) < 4) <|
  reqP (0 ≤ (3 : Int) ∧ (3 : Int) < 4) <|
  reqP (0 ≤ (2 : Int) ∧ (2 : Int) < 4) <|
  bnd (arrWr b4 (2 : Int) (iAdd .u64 (arrRd (0 : Int) b4 (2 : Int)) (arrRd (0 : Int) b4 (3 : Int)))) fun b5 =>
  reqP (0 ≤ (3 : Int) ∧ (3 : Int) < 4) <|
  Option.bind (sh_passkeyref1_rotl ((arrRd (0 : Int) b5 (3 : Int)), (16 : Int))) fun r6 =>
  reqP (0 ≤ (2 : Int) ∧ (2 : Int) < 4) <|
  reqP (0 ≤ (3 : Int) ∧ (3 : Int) < 4) <|
  bnd (arrWr b5 (3 : Int) (iXor .u64 r6 (arrRd (0 : Int) b5 (2 : Int)))) fun b7 =>
  reqP (0 ≤ (0 : Int) ∧ (0 : Int) < 4) <|
  reqP (0 ≤ (3 : Int) ∧ (3 : Int) < 4) <|
  reqP (0 ≤ (0 : Int) ∧ (0 : Int) < 4) <|
  bnd (arrWr b7 (0 : Int) (iAdd .u64 (arrRd (0 : Int) b7 (0 : Int)) (arrRd (0 : Int) b7 (3 : Int)))) fun b8 =>
  reqP (0 ≤ (3 : Int) ∧ (3 : Int) < 4) <|
  Option.bind (sh_passkeyref1_rotl ((arrRd (0 : Int) b8 (3 : Int)), (21 : Int))) fun r9 =>
  reqP (0 ≤ (0 : Int) ∧ (0 : Int) < 4) <|
  reqP (0 ≤ (3 : Int) ∧ (3 : Int) < 4) <|
  bnd (arrWr b8 (3 : Int) (iXor .u64 r9 (arrRd (0 : Int) b8 (0 : Int)))) fun b10 =>
  reqP (0 ≤ (2 : Int) ∧ (2 : Int) < 4) <|
  reqP (0 ≤ (1 : Int) ∧ (1 : Int) < 4) <|
  reqP (0 ≤ (2 : Int) ∧ (2 : Int) < 4) <|
  bnd (arrWr b10 (2 : Int) (iAdd .u64 (arrRd (0 : Int) b10 (2 : Int)) (arrRd (0 : Int) b10 (1 : Int)))) fun b11 =>
  reqP (0 ≤ (1 : Int) ∧ (1 : Int) < 4) <|
  Option.bind (sh_passkeyref1_rotl ((arrRd (0 : Int) b11 (1 : Int)), (17 : Int))) fun r12 =>
  reqP (0 ≤ (2 : Int) ∧ (2 : Int) < 4) <|
  reqP (0 ≤ (1 : Int) ∧ (1 : Int) < 4) <|
  bnd (arrWr b11 (1 : Int) (iXor .u64 r12 (arrRd (0 : Int) b11 (2 : Int)))) fun b13 =>
  reqP (0 ≤ (2 : Int) ∧ (2 : Int) < 4) <|
  Option.bind (sh_passkeyref1_rotl ((arrRd (0 : Int) b13 (2 : Int)), (32 : Int))) fun r14 =>
  reqP (0 ≤ (2 : Int) ∧ (2 : Int) < 4) <|
  bnd (arrWr b13 (2 : Int) r14) fun b15 =>
  some b15

def sh_passkeyref1_Sum (x : Int × Int × (List Int)) : Option Int :=
  jn (α := (Arr 4 Int)) (ρ := Int) (loopLim (σ := ((Arr 4 Int) × (List Int) × Int)) (α := (Arr 4 Int) ⊕ Int) (fun s0 =>
    if (bLe s0.2.2 (s0.2.1.length : Int)) then
      jn (α := ((Arr 4 Int) × (List Int) × Int × Int)) (ρ := (((Arr 4 Int) × (List Int) × Int) ⊕ ((Arr 4 Int) ⊕ Int))) (loopLim (σ := ((Arr 4 Int) × (List Int) × Int × Int × Int)) (α := ((Arr 4 Int) × (List Int) × Int × Int) ⊕ (((Arr 4 Int) × (List Int) × Int) ⊕ ((Arr 4 Int) ⊕ Int))) (fun s2 =>
        if (bGe s2.2.2.2.2 (0 : Int)) then
          jn (α := ((Arr 4 Int) × (List Int) × Int × Int × Int)) (ρ := (((Arr 4 Int) × (List Int) × Int × Int × Int) ⊕ (((Arr 4 Int) × (List Int) × Int × Int) ⊕ (((Arr 4 Int) × (List Int) × Int) ⊕ ((Arr 4 Int) ⊕ Int))))) (
            jn (α := ((Arr 4 Int) × (List Int) × Int × Int × Int × Int)) (ρ := (((Arr 4 Int) × (List Int) × Int × Int × Int) ⊕ (((Arr 4 Int) × (List Int) × Int × Int × Int) ⊕ (((Arr 4 Int) × (List Int) × Int × Int) ⊕ (((Arr 4 Int) × (List Int) × Int) ⊕ ((Arr 4 Int) ⊕ Int)))))) (
              if (bLt (iAdd .i64 s2.2.2.1 s2.2.2.2.2) (s2.2.1.length : Int)) then
                atL s2.2.1 (iAdd .i64 s2.2.2.1 s2.2.2.2.2) fun y6 =>
                some (.inl (s2.1, s2.2.1, s2.2.2.1, s2.2.2.2.1, s2.2.2.2.2, y6))
              else
                if (bEq s2.2.2.2.2 (7 : Int)) then
                  bnd (iConv .u8 (s2.2.1.length : Int)) fun b7 =>
                  some (.inl (s2.1, s2.2.1, s2.2.2.1, s2.2.2.2.1, s2.2.2.2.2, b7))
                else
                  some (.inl (s2.1, s2.2.1, s2.2.2.1, s2.2.2.2.1, s2.2.2.2.2, (0 : Int)))
            ) fun j5 =>
            bnd (iOr .u64 (iShl .u64 j5.2.2.2.1 (8 : Int)) (iConv .u64 j5.2.2.2.2.2)) fun b8 =>
            some (.inl (j5.1, j5.2.1, j5.2.2.1, b8, j5.2.2.2.2.1))
          ) fun j4 =>
          bnd (iSub .i64 j4.2.2.2.2 (1 : Int)) fun b9 =>
          some (.inl (j4.1, j4.2.1, j4.2.2.1, j4.2.2.2.1, b9))
        else
          some (.inr (.inl (s2.1, s2.2.1, s2.2.2.1, s2.2.2.2.1)))
      ) (s0.1, s0.2.1, s0.2.2, (0 : Int), (7 : Int))) fun j3 =>
      reqP (0 ≤ (3 : Int) ∧ (3 : Int) < 4) <|
      reqP (0 ≤ (3 : Int) ∧ (3 : Int) < 4) <|
      bnd (arrWr j3.1 (3 : Int) (iXor .u64 (arrRd (0 : Int) j3.1 (3 : Int)) j3.2.2.2)) fun b10 =>
      Option.bind (sh_passkeyref1_round b10) fun r11 =>
      Option.bind (sh_passkeyref1_round r11) fun r12 =>
      reqP (0 ≤ (0 : Int) ∧ (0 : Int) < 4) <|
      reqP (0 ≤ (0 : Int) ∧ (0 : Int) < 4) <|
      bnd (arrWr r12 (0 : Int) (iXor .u64 (arrRd (0 : Int) r12 (0 : Int)) j3.2.2.2)) fun b13 =>
      bnd (iAdd .i64 j3.2.2.1 (8 : Int)) fun b14 =>
      some (.inl (b13, j3.2.1, b14))
    else
      some (.inr (.inl s0.1))
  ) ((⟨[(iXor .u64 x.1 (8317987319222330741 : Int)), (iXor .u64 x.2.1 (7237128888997146477 : Int)), (iXor .u64 x.1 (7816392313619706465 : Int)), (iXor .u64 x.2.1 (8387220255154660723 : Int))], rfl⟩ : Arr 4 Int), x.2.2, (0 : Int))) fun j1 =>
  reqP (0 ≤ (2 : Int) ∧ (2 : Int) < 4) <|
  reqP (0 ≤ (2 : Int) ∧ (2 : Int) < 4) <|
  bnd (arrWr j1 (2 : Int) (iXor .u64 (arrRd (0 : Int) j1 (2 : Int)) (255 : Int))) fun b15 =>
  Option.bind (sh_passkeyref1_round b15) fun r16 =>
  Option.bind (sh_passkeyref1_round r16) fun r17 =>
  Option.bind (sh_passkeyref1_round r17) fun r18 =>
  Option.bind (sh_passkeyref1_round r18) fun r19 =>
  reqP (0 ≤ (0 : Int) ∧ (0 : Int) < 4) <|
  reqP (0 ≤ (1 : Int) ∧ (1 : Int) < 4) <|
  reqP (0 ≤ (2 : Int) ∧ (2 : Int) < 4) <|
  reqP (0 ≤ (3 : Int) ∧ (3 : Int) < 4) <|
  bnd (iXor .u64 (iXor .u64 (iXor .u64 (arrRd (0 : Int) r19 (0 : Int)) (arrRd (0 : Int) r19 (1 : Int))) (arrRd (0 : Int) r19 (2 : Int))) (arrRd (0 : Int) r19 (3 : Int))) fun b20 =>
  some b20

def sh_passkeyref1_Hash (x : Int × (List Int)) : Option Int :=
  Option.bind (sh_passkeyref1_Sum ((iConv .u64 x.1), (0 : Int), x.2)) fun r0 =>
  some r0

def sh_passkeyref3_Run (x : Int × Int × Int × Int × Int) : Option Int :=
  bnd (iMax x.2.2.1 (0 : Int)) fun b0 =>
  jn (α := Int) (ρ := Int) (loopLim (σ := (Int × Int × Int × Int × Int)) (α := Int ⊕ Int) (fun s1 =>
    if (bLt s1.2.2.2.2 (iMin s1.2.2.1 (15 : Int))) then
      bnd (((((List.replicate 4 (0 : Int)).set 0 (iConv .u64 s1.1)).set 1 (iConv .u64 s1.2.1)).set 2 (iConv .u64 s1.2.2.2.2)).set 3 s1.2.2.2.1) fun b3 =>
      Option.bind (sh_passkeyref1_Words b3) fun r4 =>
      Option.bind (sh_passkeyref1_Hash ((1 : Int), r4)) fun r5 =>
      bnd (iAdd .i64 s1.2.2.2.2 (1 : Int)) fun b6 =>
      some (.inl (s1.1, s1.2.1, s1.2.2.1, r5, b6))
    else
      some (.inr (.inl s1.2.2.2.1))
  ) (x.1, x.2.1, x.2.2.2.1, x.2.2.2.2, b0)) fun j2 =>
  some j2

def sh_passkeylaw3_OnetimeRuns (x : Int × Int × Int × Int × Int) : Option Bool :=
  Option.bind (sh_onetime_Run (x.1, x.2.1, x.2.2.1, x.2.2.2.1, x.2.2.2.2)) fun r0 =>
  Option.bind (sh_passkeyref3_Run (x.1, x.2.1, x.2.2.1, x.2.2.2.1, x.2.2.2.2)) fun r1 =>
  if (bEq r0 r1) then
    Option.bind (sh_onetime_Run ((iAnd .i64 x.1 (15 : Int)), (iAnd .i64 x.2.1 (31 : Int)), (iSub .i64 (iAnd .i64 x.2.2.1 (31 : Int)) (8 : Int)), (iSub .i64 (iAnd .i64 x.2.2.2.1 (31 : Int)) (8 : Int)), x.2.2.2.2)) fun r2 =>
    Option.bind (sh_passkeyref3_Run ((iAnd .i64 x.1 (15 : Int)), (iAnd .i64 x.2.1 (31 : Int)), (iSub .i64 (iAnd .i64 x.2.2.1 (31 : Int)) (8 : Int)), (iSub .i64 (iAnd .i64 x.2.2.2.1 (31 : Int)) (8 : Int)), x.2.2.2.2)) fun r3 =>
    if (bEq r2 r3) then
      Option.bind (sh_passkeylaw3_awake ()) fun r4 =>
      some r4
    else
      some false
  else
    some false

def sh_passkeylaw3_OnetimeForward (x : Int × Int × Int × Int × Int × Int) : Option Bool :=
  bnd (iConv .i64 (iRem .u8 x.2.2.1 (16 : Int))) fun b0 =>
  bnd (iAdd .i64 b0 (iConv .i64 (iRem .u8 x.2.2.2.1 (16 : Int)))) fun b1 =>
  bnd (iAdd .i64 b1 (iConv .i64 (iRem .u8 x.2.2.2.2.1 (16 : Int)))) fun b2 =>
  Option.bind (sh_onetime_Run ((iConv .i64 x.1), (iConv .i64 x.2.1), b0, b2, x.2.2.2.2.2)) fun r3 =>
  Option.bind (sh_onetime_Run ((iConv .i64 x.1), (iConv .i64 x.2.1), b0, b1, x.2.2.2.2.2)) fun r4 =>
  Option.bind (sh_onetime_Run ((iConv .i64 x.1), (iConv .i64 x.2.1), b1, b2, r4)) fun r5 =>
  if (bEq r3 r5) then
    Option.bind (sh_passkeylaw3_awake ()) fun r6 =>
    some r6
  else
    some false

def sh_digest_Mac (x : Int × Int × (List Int)) : Option Int :=
  Option.bind (sh_digest_Sum (x.1, (iAdd .u64 (1 : Int) (iConv .u64 x.2.1)), x.2.2)) fun r0 =>
  some r0

def sh_passkeyref1_Mac (x : Int × Int × (List Int)) : Option Int :=
  Option.bind (sh_passkeyref1_Sum (x.1, (iAdd .u64 (1 : Int) (iConv .u64 x.2.1)), x.2.2)) fun r0 =>
  some r0

def sh_lease_valid (x : (Int × Int × Int × Int)) : Option Bool :=
  if (bLe (0 : Int) x.2.1) then
    if (bLe x.2.1 x.2.2.2) then
      if (bLe x.2.2.2 x.2.2.1) then
        bnd (bLe x.2.2.1 (16 : Int)) fun b0 =>
        some b0
      else
        some false
    else
      some false
  else
    some false

def sh_lease_Find (x : (List (Int × Int × Int × Int)) × Int) : Option (Int × Bool) :=
  jn (α := (Unit)) (ρ := (Int × Bool)) (loopLim (σ := (Int × (List (Int × Int × Int × Int)) × Int × Int)) (α := (Unit) ⊕ (Int × Bool)) (fun s0 =>
    if (bLt s0.2.2.2 s0.2.2.1) then
      atL s0.2.1 s0.2.2.2 fun y2 =>
      if (bEq y2.1 s0.1) then
        some (.inr (.inr (s0.2.2.2, true)))
      else
        bnd (iAdd .i64 s0.2.2.2 (1 : Int)) fun b3 =>
        some (.inl (s0.1, s0.2.1, s0.2.2.1, b3))
    else
      some (.inr (.inl ()))
  ) (x.2, x.1, (x.1.length : Int), (0 : Int))) fun j1 =>
  some ((0 : Int), false)

def sh_lease_Validate (x : (List (Int × Int × Int × Int))) : Option Int :=
  if (bGt (x.length : Int) (16 : Int)) then
    some (8 : Int)
  else
    jn (α := (Unit)) (ρ := Int) (loopLim (σ := ((List (Int × Int × Int × Int)) × (List (Int × Int × Int × Int)) × Int × Int)) (α := (Unit) ⊕ Int) (fun s0 =>
      if (bLt s0.2.2.2 s0.2.2.1) then
        atL s0.2.1 s0.2.2.2 fun y2 =>
        Option.bind (sh_lease_valid (y2.1, (y2.2.1, (y2.2.2.1, y2.2.2.2)))) fun r3 =>
        if (!r3) then
          some (.inr (.inr (9 : Int)))
        else
          reqP (0 ≤ s0.2.2.2 ∧ s0.2.2.2 ≤ (s0.1.length : Int)) <|
          Option.bind (sh_lease_Find ((s0.1.take s0.2.2.2.toNat), y2.1)) fun r4 =>
          if r4.2 then
            some (.inr (.inr (10 : Int)))
          else
            bnd (iAdd .i64 s0.2.2.2 (1 : Int)) fun b5 =>
            some (.inl (s0.1, s0.2.1, s0.2.2.1, b5))
      else
        some (.inr (.inl ()))
    ) (x, x, (x.length : Int), (0 : Int))) fun j1 =>
    some (0 : Int)

def sh_slices_Clone___passkey_api_Lease_passkey_api_Lease_ (x : (List (Int × Int × Int × Int))) : Option ((List (Int × Int × Int × Int))) :=
  reqP (x.length * 32 ≤ 140737488355328) <|
  some x

def sh_lease_Grant (x : (List (Int × Int × Int × Int)) × Int × Int × Int × Int) : Option ((List (Int × Int × Int × Int)) × Int) :=
  Option.bind (sh_lease_Validate x.1) fun r0 =>
  if (bNe r0 (0 : Int)) then
    some (([] : List (Int × Int × Int × Int)), r0)
  else
    Option.bind (sh_lease_valid (x.2.1, (x.2.2.1, (x.2.2.2.1, x.2.2.2.2)))) fun r1 =>
    if (!r1) then
      some (([] : List (Int × Int × Int × Int)), (9 : Int))
    else
      Option.bind (sh_lease_Find (x.1, x.2.1)) fun r2 =>
      if r2.2 then
        some (([] : List (Int × Int × Int × Int)), (10 : Int))
      else
        if (bEq (x.1.length : Int) (16 : Int)) then
          some (([] : List (Int × Int × Int × Int)), (12 : Int))
        else
          Option.bind (sh_slices_Clone___passkey_api_Lease_passkey_api_Lease_ x.1) fun r3 =>
          bnd ((List.replicate 1 ((0 : Int), ((0 : Int), ((0 : Int), (0 : Int))))).set 0 (x.2.1, (x.2.2.1, (x.2.2.2.1, x.2.2.2.2)))) fun b4 =>
          reqP ((r3.length + b4.length) * 32 ≤ 140737488355328) <|
          bnd (r3 ++ b4) fun b5 =>
          some (b5, (0 : Int))

def sh_lease_held (x : (List (Int × Int × Int × Int)) × Int) : Option ((List (Int × Int × Int × Int)) × Int × Int) :=
  Option.bind (sh_lease_Validate x.1) fun r0 =>
  if (bNe r0 (0 : Int)) then
    some (([] : List (Int × Int × Int × Int)), (0 : Int), r0)
  else
    Option.bind (sh_lease_Find (x.1, x.2)) fun r1 =>
    if (!r1.2) then
      some (([] : List (Int × Int × Int × Int)), (0 : Int), (11 : Int))
    else
      Option.bind (sh_slices_Clone___passkey_api_Lease_passkey_api_Lease_ x.1) fun r2 =>
      some (r2, r1.1, (0 : Int))

def sh_lease_Take (x : (List (Int × Int × Int × Int)) × Int) : Option ((List (Int × Int × Int × Int)) × Int × Int) :=
  Option.bind (sh_lease_held (x.1, x.2)) fun r0 =>
  if (bNe r0.2.2 (0 : Int)) then
    some (([] : List (Int × Int × Int × Int)), (0 : Int), r0.2.2)
  else
    reqP (0 ≤ r0.2.1 ∧ r0.2.1 < (r0.1.length : Int)) <|
    bnd (r0.1.getD r0.2.1.toNat ((0 : Int), ((0 : Int), ((0 : Int), (0 : Int))))).2.2.2 fun b1 =>
    reqP (0 ≤ r0.2.1 ∧ r0.2.1 < (r0.1.length : Int)) <|
    if (bEq b1 (r0.1.getD r0.2.1.toNat ((0 : Int), ((0 : Int), ((0 : Int), (0 : Int))))).2.2.1) then
      some (([] : List (Int × Int × Int × Int)), (0 : Int), (13 : Int))
    else
      reqP (0 ≤ r0.2.1 ∧ r0.2.1 < (r0.1.length : Int)) <|
      reqP (0 ≤ r0.2.1 ∧ r0.2.1 < (r0.1.length : Int)) <|
      bnd (r0.1.set r0.2.1.toNat ((r0.1.getD r0.2.1.toNat ((0 : Int), ((0 : Int), ((0 : Int), (0 : Int))))).1, ((r0.1.getD r0.2.1.toNat ((0 : Int), ((0 : Int), ((0 : Int), (0 : Int))))).2.1, ((r0.1.getD r0.2.1.toNat ((0 : Int), ((0 : Int), ((0 : Int), (0 : Int))))).2.2.1, (iAdd .i64 (r0.1.getD r0.2.1.toNat ((0 : Int), ((0 : Int), ((0 : Int), (0 : Int))))).2.2.2 (1 : Int)))))) fun b2 =>
      some (b2, b1, (0 : Int))

def sh_passkeylaw10_awake (x : Unit) : Option Bool :=
  Option.bind (sh_lease_Grant (([] : List (Int × Int × Int × Int)), (5 : Int), (0 : Int), (2 : Int), (0 : Int))) fun r0 =>
  Option.bind (sh_lease_Take (r0.1, (5 : Int))) fun r1 =>
  Option.bind (sh_lease_Take (r1.1, (5 : Int))) fun r2 =>
  Option.bind (sh_lease_Take (r2.1, (5 : Int))) fun r3 =>
  if (bEq r0.2 (0 : Int)) then
    if (bEq r1.2.2 (0 : Int)) then
      if (bEq r2.2.2 (0 : Int)) then
        if (bEq r3.2.2 (13 : Int)) then
          if (bEq r1.2.1 (0 : Int)) then
            bnd (bEq r2.2.1 (1 : Int)) fun b4 =>
            some b4
          else
            some false
        else
          some false
      else
        some false
    else
      some false
  else
    some false

def sh_passkeylaw10_made (x : (List Int)) : Option (List (Int × Int × Int × Int)) :=
  jn (α := (List (Int × Int × Int × Int))) (ρ := (List (Int × Int × Int × Int))) (loopLim (σ := ((List (Int × Int × Int × Int)) × (List Int) × Int)) (α := (List (Int × Int × Int × Int)) ⊕ (List (Int × Int × Int × Int))) (fun s0 =>
    jn (α := ((List (Int × Int × Int × Int)) × (List Int) × Int × Int × Bool)) (ρ := (((List (Int × Int × Int × Int)) × (List Int) × Int) ⊕ ((List (Int × Int × Int × Int)) ⊕ (List (Int × Int × Int × Int))))) (
      if (bLt s0.2.2 (s0.2.1.length : Int)) then
        if (bLt s0.2.2 (18 : Int)) then
          some (.inl (s0.1, s0.2.1, s0.2.2, s0.2.2, (bLt s0.2.2 (18 : Int))))
        else
          some (.inr (.inr (.inl s0.1)))
      else
        some (.inr (.inr (.inl s0.1)))
    ) fun j2 =>
    jn (α := ((List (Int × Int × Int × Int)) × (List Int) × Int × Int × Bool)) (ρ := (((List (Int × Int × Int × Int)) × (List Int) × Int) ⊕ ((List (Int × Int × Int × Int)) ⊕ (List (Int × Int × Int × Int))))) (
      atL j2.2.1 j2.2.2.1 fun y4 =>
      bnd (iAnd .i64 y4 (16777215 : Int)) fun b5 =>
      bnd (iAdd .i64 (iAnd .i64 b5 (7 : Int)) (iAnd .i64 (iShr .i64 b5 (3 : Int)) (7 : Int))) fun b6 =>
      reqP ((iAdd .i64 (iSub .i64 b6 (iAnd .i64 b5 (7 : Int))) (1 : Int)) ≠ 0) <|
      bnd (iAdd .i64 (iAnd .i64 b5 (7 : Int)) (iRem .i64 (iAnd .i64 (iShr .i64 b5 (6 : Int)) (7 : Int)) (iAdd .i64 (iSub .i64 b6 (iAnd .i64 b5 (7 : Int))) (1 : Int)))) fun b7 =>
      jn (α := ((List (Int × Int × Int × Int)) × Int × Int × Int × Int × (List Int) × Int × Int × Bool)) (ρ := (((List (Int × Int × Int × Int)) × (List Int) × Int × Int × Bool) ⊕ (((List (Int × Int × Int × Int)) × (List Int) × Int) ⊕ ((List (Int × Int × Int × Int)) ⊕ (List (Int × Int × Int × Int)))))) (
        bnd (bEq (iAnd .i64 (iShr .i64 b5 (9 : Int)) (63 : Int)) (0 : Int)) fun b9 =>
        if b9 then
          bnd (iConv .u64 (iAnd .i64 (iShr .i64 b5 (15 : Int)) (3 : Int))) fun b10 =>
          some (.inl (j2.1, b10, (iAnd .i64 b5 (7 : Int)), b6, b7, j2.2.1, j2.2.2.1, j2.2.2.2.1, j2.2.2.2.2))
        else
          bnd (bEq (iAnd .i64 (iShr .i64 b5 (9 : Int)) (63 : Int)) (1 : Int)) fun b11 =>
          if b11 then
            bnd (iSub .i64 (iAnd .i64 (iShr .i64 b5 (15 : Int)) (31 : Int)) (3 : Int)) fun b12 =>
            some (.inl (j2.1, (iConv .u64 j2.2.2.1), (iAnd .i64 b5 (7 : Int)), b6, b12, j2.2.1, j2.2.2.1, j2.2.2.2.1, j2.2.2.2.2))
          else
            bnd (bEq (iAnd .i64 (iShr .i64 b5 (9 : Int)) (63 : Int)) (2 : Int)) fun b13 =>
            if b13 then
              bnd (iAdd .i64 (14 : Int) (iAnd .i64 (iShr .i64 b5 (15 : Int)) (3 : Int))) fun b14 =>
              some (.inl (j2.1, (iConv .u64 j2.2.2.1), (iAnd .i64 b5 (7 : Int)), b14, b7, j2.2.1, j2.2.2.1, j2.2.2.2.1, j2.2.2.2.2))
            else
              bnd (bEq (iAnd .i64 (iShr .i64 b5 (9 : Int)) (63 : Int)) (3 : Int)) fun b15 =>
              if b15 then
                bnd (iSub .i64 (iAnd .i64 (iShr .i64 b5 (15 : Int)) (3 : Int)) (2 : Int)) fun b16 =>
                some (.inl (j2.1, (iConv .u64 j2.2.2.1), b16, b6, b7, j2.2.1, j2.2.2.1, j2.2.2.2.1, j2.2.2.2.2))
              else
                some (.inl (j2.1, (iConv .u64 j2.2.2.1), (iAnd .i64 b5 (7 : Int)), b6, b7, j2.2.1, j2.2.2.1, j2.2.2.2.1, j2.2.2.2.2))
      ) fun j8 =>
      bnd ((List.replicate 1 ((0 : Int), ((0 : Int), ((0 : Int), (0 : Int))))).set 0 (j8.2.1, (j8.2.2.1, (j8.2.2.2.1, j8.2.2.2.2.1)))) fun b17 =>
      reqP ((j8.1.length + b17.length) * 32 ≤ 140737488355328) <|
      bnd (j8.1 ++ b17) fun b18 =>
      some (.inl (b18, j8.2.2.2.2.2.1, j8.2.2.2.2.2.2.1, j8.2.2.2.2.2.2.2.1, j8.2.2.2.2.2.2.2.2))
    ) fun j3 =>
    bnd (iAdd .i64 j3.2.2.1 (1 : Int)) fun b19 =>
    some (.inl (j3.1, j3.2.1, b19))
  ) (([] : List (Int × Int × Int × Int)), x, (0 : Int))) fun j1 =>
  some j1

def sh_passkeyref10_FindLease (x : (List (Int × Int × Int × Int)) × Int) : Option (Int × Bool) :=
  jn (α := (Unit)) (ρ := (Int × Bool)) (loopLim (σ := ((List (Int × Int × Int × Int)) × Int × Int)) (α := (Unit) ⊕ (Int × Bool)) (fun s0 =>
    if (bLt s0.2.2 (s0.1.length : Int)) then
      atL s0.1 s0.2.2 fun y2 =>
      if (bEq y2.1 s0.2.1) then
        some (.inr (.inr (s0.2.2, true)))
      else
        bnd (iAdd .i64 s0.2.2 (1 : Int)) fun b3 =>
        some (.inl (s0.1, s0.2.1, b3))
    else
      some (.inr (.inl ()))
  ) (x.1, x.2, (0 : Int))) fun j1 =>
  some ((0 : Int), false)

def sh_passkeyref10_Valid (x : (Int × Int × Int × Int)) : Option Bool :=
  if (bGe x.2.1 (0 : Int)) then
    if (bLe x.2.1 x.2.2.2) then
      if (bLe x.2.2.2 x.2.2.1) then
        bnd (bLe x.2.2.1 (16 : Int)) fun b0 =>
        some b0
      else
        some false
    else
      some false
  else
    some false

def sh_passkeyref10_ValidateLeases (x : (List (Int × Int × Int × Int))) : Option Int :=
  if (bGt (x.length : Int) (16 : Int)) then
    some (8 : Int)
  else
    jn (α := (Unit)) (ρ := Int) (loopLim (σ := ((List (Int × Int × Int × Int)) × Int)) (α := (Unit) ⊕ Int) (fun s0 =>
      if (bLt s0.2 (s0.1.length : Int)) then
        atL s0.1 s0.2 fun y2 =>
        Option.bind (sh_passkeyref10_Valid (y2.1, (y2.2.1, (y2.2.2.1, y2.2.2.2)))) fun r3 =>
        if (!r3) then
          some (.inr (.inr (9 : Int)))
        else
          reqP (0 ≤ s0.2 ∧ s0.2 ≤ (s0.1.length : Int)) <|
          atL s0.1 s0.2 fun y4 =>
          Option.bind (sh_passkeyref10_FindLease ((s0.1.take s0.2.toNat), y4.1)) fun r5 =>
          if r5.2 then
            some (.inr (.inr (10 : Int)))
          else
            bnd (iAdd .i64 s0.2 (1 : Int)) fun b6 =>
            some (.inl (s0.1, b6))
      else
        some (.inr (.inl ()))
    ) (x, (0 : Int))) fun j1 =>
    some (0 : Int)

def sh_passkeylaw10_LeaseFinds (x : (List (Int × Int × Int × Int)) × (List Int) × Int × Int) : Option Bool :=
  if (bGt (x.1.length : Int) (40 : Int)) then
    Option.bind (sh_passkeylaw10_awake ()) fun r0 =>
    some r0
  else
    Option.bind (sh_passkeylaw10_made x.2.1) fun r1 =>
    Option.bind (sh_lease_Find (x.1, x.2.2.1)) fun r2 =>
    Option.bind (sh_passkeyref10_FindLease (x.1, x.2.2.1)) fun r3 =>
    Option.bind (sh_lease_Find (r1, (iConv .u64 (iRem .u8 x.2.2.2 (20 : Int))))) fun r4 =>
    Option.bind (sh_passkeyref10_FindLease (r1, (iConv .u64 (iRem .u8 x.2.2.2 (20 : Int))))) fun r5 =>
    Option.bind (sh_lease_Validate x.1) fun r6 =>
    Option.bind (sh_passkeyref10_ValidateLeases x.1) fun r7 =>
    if (bEq r6 r7) then
      Option.bind (sh_lease_Validate r1) fun r8 =>
      Option.bind (sh_passkeyref10_ValidateLeases r1) fun r9 =>
      if (bEq r8 r9) then
        if (bEq r2.1 r3.1) then
          if (bIff r2.2 r3.2) then
            if (bEq r4.1 r5.1) then
              if (bIff r4.2 r5.2) then
                Option.bind (sh_passkeylaw10_awake ()) fun r10 =>
                some r10
              else
                some false
            else
              some false
          else
            some false
        else
          some false
      else
        some false
    else
      some false

def sh_passkeyref10_Grant (x : (List (Int × Int × Int × Int)) × Int × Int × Int × Int) : Option ((List (Int × Int × Int × Int)) × Int) :=
  Option.bind (sh_passkeyref10_ValidateLeases x.1) fun r0 =>
  if (bNe r0 (0 : Int)) then
    some (([] : List (Int × Int × Int × Int)), r0)
  else
    Option.bind (sh_passkeyref10_Valid (x.2.1, (x.2.2.1, (x.2.2.2.1, x.2.2.2.2)))) fun r1 =>
    if (!r1) then
      some (([] : List (Int × Int × Int × Int)), (9 : Int))
    else
      Option.bind (sh_passkeyref10_FindLease (x.1, x.2.1)) fun r2 =>
      if r2.2 then
        some (([] : List (Int × Int × Int × Int)), (10 : Int))
      else
        if (bGe (x.1.length : Int) (16 : Int)) then
          some (([] : List (Int × Int × Int × Int)), (12 : Int))
        else
          reqP (x.1.length * 32 ≤ 140737488355328) <|
          bnd ((List.replicate 1 ((0 : Int), ((0 : Int), ((0 : Int), (0 : Int))))).set 0 (x.2.1, (x.2.2.1, (x.2.2.2.1, x.2.2.2.2)))) fun b3 =>
          reqP ((x.1.length + b3.length) * 32 ≤ 140737488355328) <|
          bnd (x.1 ++ b3) fun b4 =>
          some (b4, (0 : Int))

def sh_passkeyref10_SameLeases (x : (List (Int × Int × Int × Int)) × (List (Int × Int × Int × Int))) : Option Bool :=
  if (bNe (x.1.length : Int) (x.2.length : Int)) then
    some false
  else
    jn (α := (Unit)) (ρ := Bool) (loopLim (σ := ((List (Int × Int × Int × Int)) × (List (Int × Int × Int × Int)) × Int)) (α := (Unit) ⊕ Bool) (fun s0 =>
      if (bLt s0.2.2 (s0.1.length : Int)) then
        atL s0.1 s0.2.2 fun y2 =>
        atL s0.2.1 s0.2.2 fun y3 =>
        if (!((bEq y2.1 y3.1) && ((bEq y2.2.1 y3.2.1) && ((bEq y2.2.2.1 y3.2.2.1) && ((bEq y2.2.2.2 y3.2.2.2) && true))))) then
          some (.inr (.inr false))
        else
          bnd (iAdd .i64 s0.2.2 (1 : Int)) fun b4 =>
          some (.inl (s0.1, s0.2.1, b4))
      else
        some (.inr (.inl ()))
    ) (x.1, x.2, (0 : Int))) fun j1 =>
    some true

def sh_passkeylaw10_LeaseGrants (x : (List Int) × Int × Int) : Option Bool :=
  Option.bind (sh_passkeylaw10_made x.1) fun r0 =>
  bnd (iAnd .i64 x.2.2 (15 : Int)) fun b1 =>
  bnd (iSub .i64 (iAnd .i64 (iShr .i64 x.2.2 (4 : Int)) (31 : Int)) (3 : Int)) fun b2 =>
  bnd (iSub .i64 (iAnd .i64 (iShr .i64 x.2.2 (9 : Int)) (31 : Int)) (3 : Int)) fun b3 =>
  Option.bind (sh_lease_Grant (r0, x.2.1, b1, b2, b3)) fun r4 =>
  Option.bind (sh_passkeyref10_Grant (r0, x.2.1, b1, b2, b3)) fun r5 =>
  Option.bind (sh_lease_Grant (r0, (iConv .u64 (iAnd .i64 (iShr .i64 x.2.2 (14 : Int)) (31 : Int))), b1, (iAdd .i64 b1 (iAnd .i64 (iShr .i64 x.2.2 (19 : Int)) (3 : Int))), b1)) fun r6 =>
  Option.bind (sh_passkeyref10_Grant (r0, (iConv .u64 (iAnd .i64 (iShr .i64 x.2.2 (14 : Int)) (31 : Int))), b1, (iAdd .i64 b1 (iAnd .i64 (iShr .i64 x.2.2 (19 : Int)) (3 : Int))), b1)) fun r7 =>
  if (bEq r4.2 r5.2) then
    Option.bind (sh_passkeyref10_SameLeases (r4.1, r5.1)) fun r8 =>
    if r8 then
      if (bEq r6.2 r7.2) then
        Option.bind (sh_passkeyref10_SameLeases (r6.1, r7.1)) fun r9 =>
        if r9 then
          Option.bind (sh_passkeylaw10_awake ()) fun r10 =>
          some r10
        else
          some false
      else
        some false
    else
      some false
  else
    some false

def sh_lease_Part (x : (List (Int × Int × Int × Int)) × Int × Int) : Option ((List (Int × Int × Int × Int)) × Int × Int × Int) :=
  Option.bind (sh_lease_held (x.1, x.2.1)) fun r0 =>
  if (bNe r0.2.2 (0 : Int)) then
    some (([] : List (Int × Int × Int × Int)), (0 : Int), (0 : Int), r0.2.2)
  else
    if (bLt x.2.2 (1 : Int)) then
      some (([] : List (Int × Int × Int × Int)), (0 : Int), (0 : Int), (9 : Int))
    else
      reqP (0 ≤ r0.2.1 ∧ r0.2.1 < (r0.1.length : Int)) <|
      bnd (r0.1.getD r0.2.1.toNat ((0 : Int), ((0 : Int), ((0 : Int), (0 : Int))))).2.2.1 fun b1 =>
      reqP (0 ≤ r0.2.1 ∧ r0.2.1 < (r0.1.length : Int)) <|
      if (bLt (iSub .i64 b1 (r0.1.getD r0.2.1.toNat ((0 : Int), ((0 : Int), ((0 : Int), (0 : Int))))).2.2.2) x.2.2) then
        some (([] : List (Int × Int × Int × Int)), (0 : Int), (0 : Int), (13 : Int))
      else
        reqP (0 ≤ r0.2.1 ∧ r0.2.1 < (r0.1.length : Int)) <|
        reqP (0 ≤ r0.2.1 ∧ r0.2.1 < (r0.1.length : Int)) <|
        bnd (r0.1.set r0.2.1.toNat ((r0.1.getD r0.2.1.toNat ((0 : Int), ((0 : Int), ((0 : Int), (0 : Int))))).1, ((r0.1.getD r0.2.1.toNat ((0 : Int), ((0 : Int), ((0 : Int), (0 : Int))))).2.1, ((iSub .i64 (r0.1.getD r0.2.1.toNat ((0 : Int), ((0 : Int), ((0 : Int), (0 : Int))))).2.2.1 x.2.2), (r0.1.getD r0.2.1.toNat ((0 : Int), ((0 : Int), ((0 : Int), (0 : Int))))).2.2.2)))) fun b2 =>
        reqP (0 ≤ r0.2.1 ∧ r0.2.1 < (b2.length : Int)) <|
        bnd (b2.getD r0.2.1.toNat ((0 : Int), ((0 : Int), ((0 : Int), (0 : Int))))).2.2.1 fun b3 =>
        some (b2, b3, b1, (0 : Int))

def sh_passkeyref10_Part (x : (List (Int × Int × Int × Int)) × Int × Int) : Option ((List (Int × Int × Int × Int)) × Int × Int × Int) :=
  Option.bind (sh_passkeyref10_ValidateLeases x.1) fun r0 =>
  if (bNe r0 (0 : Int)) then
    some (([] : List (Int × Int × Int × Int)), (0 : Int), (0 : Int), r0)
  else
    Option.bind (sh_passkeyref10_FindLease (x.1, x.2.1)) fun r1 =>
    if (!r1.2) then
      some (([] : List (Int × Int × Int × Int)), (0 : Int), (0 : Int), (11 : Int))
    else
      if (bLt x.2.2 (1 : Int)) then
        some (([] : List (Int × Int × Int × Int)), (0 : Int), (0 : Int), (9 : Int))
      else
        atL x.1 r1.1 fun y2 =>
        atL x.1 r1.1 fun y3 =>
        if (bLt (iSub .i64 y2.2.2.1 y3.2.2.2) x.2.2) then
          some (([] : List (Int × Int × Int × Int)), (0 : Int), (0 : Int), (13 : Int))
        else
          reqP (x.1.length * 32 ≤ 140737488355328) <|
          reqP (0 ≤ r1.1 ∧ r1.1 < (x.1.length : Int)) <|
          reqP (0 ≤ r1.1 ∧ r1.1 < (x.1.length : Int)) <|
          bnd (x.1.set r1.1.toNat ((x.1.getD r1.1.toNat ((0 : Int), ((0 : Int), ((0 : Int), (0 : Int))))).1, ((x.1.getD r1.1.toNat ((0 : Int), ((0 : Int), ((0 : Int), (0 : Int))))).2.1, ((iSub .i64 (x.1.getD r1.1.toNat ((0 : Int), ((0 : Int), ((0 : Int), (0 : Int))))).2.2.1 x.2.2), (x.1.getD r1.1.toNat ((0 : Int), ((0 : Int), ((0 : Int), (0 : Int))))).2.2.2)))) fun b4 =>
          reqP (0 ≤ r1.1 ∧ r1.1 < (b4.length : Int)) <|
          atL x.1 r1.1 fun y5 =>
          bnd (b4.getD r1.1.toNat ((0 : Int), ((0 : Int), ((0 : Int), (0 : Int))))).2.2.1 fun b6 =>
          some (b4, b6, y5.2.2.1, (0 : Int))

def sh_passkeylaw10_LeaseParts (x : (List Int) × Int × Int) : Option Bool :=
  Option.bind (sh_passkeylaw10_made x.1) fun r0 =>
  Option.bind (sh_lease_Part (r0, (iConv .u64 (iRem .u8 x.2.1 (20 : Int))), x.2.2)) fun r1 =>
  Option.bind (sh_passkeyref10_Part (r0, (iConv .u64 (iRem .u8 x.2.1 (20 : Int))), x.2.2)) fun r2 =>
  Option.bind (sh_lease_Part (r0, (iConv .u64 (iRem .u8 x.2.1 (20 : Int))), (iSub .i64 (iAnd .i64 x.2.2 (7 : Int)) (1 : Int)))) fun r3 =>
  Option.bind (sh_passkeyref10_Part (r0, (iConv .u64 (iRem .u8 x.2.1 (20 : Int))), (iSub .i64 (iAnd .i64 x.2.2 (7 : Int)) (1 : Int)))) fun r4 =>
  if (bEq r1.2.2.2 r2.2.2.2) then
    if (bEq r1.2.1 r2.2.1) then
      if (bEq r1.2.2.1 r2.2.2.1) then
        Option.bind (sh_passkeyref10_SameLeases (r1.1, r2.1)) fun r5 =>
        if r5 then
          if (bEq r3.2.2.2 r4.2.2.2) then
            if (bEq r3.2.1 r4.2.1) then
              if (bEq r3.2.2.1 r4.2.2.1) then
                Option.bind (sh_passkeyref10_SameLeases (r3.1, r4.1)) fun r6 =>
                if r6 then
                  Option.bind (sh_passkeylaw10_awake ()) fun r7 =>
                  some r7
                else
                  some false
              else
                some false
            else
              some false
          else
            some false
        else
          some false
      else
        some false
    else
      some false
  else
    some false

def sh_passkeyref10_Take (x : (List (Int × Int × Int × Int)) × Int) : Option ((List (Int × Int × Int × Int)) × Int × Int) :=
  Option.bind (sh_passkeyref10_ValidateLeases x.1) fun r0 =>
  if (bNe r0 (0 : Int)) then
    some (([] : List (Int × Int × Int × Int)), (0 : Int), r0)
  else
    Option.bind (sh_passkeyref10_FindLease (x.1, x.2)) fun r1 =>
    if (!r1.2) then
      some (([] : List (Int × Int × Int × Int)), (0 : Int), (11 : Int))
    else
      atL x.1 r1.1 fun y2 =>
      atL x.1 r1.1 fun y3 =>
      if (bEq y2.2.2.2 y3.2.2.1) then
        some (([] : List (Int × Int × Int × Int)), (0 : Int), (13 : Int))
      else
        reqP (x.1.length * 32 ≤ 140737488355328) <|
        reqP (0 ≤ r1.1 ∧ r1.1 < (x.1.length : Int)) <|
        reqP (0 ≤ r1.1 ∧ r1.1 < (x.1.length : Int)) <|
        bnd (x.1.set r1.1.toNat ((x.1.getD r1.1.toNat ((0 : Int), ((0 : Int), ((0 : Int), (0 : Int))))).1, ((x.1.getD r1.1.toNat ((0 : Int), ((0 : Int), ((0 : Int), (0 : Int))))).2.1, ((x.1.getD r1.1.toNat ((0 : Int), ((0 : Int), ((0 : Int), (0 : Int))))).2.2.1, (iAdd .i64 (x.1.getD r1.1.toNat ((0 : Int), ((0 : Int), ((0 : Int), (0 : Int))))).2.2.2 (1 : Int)))))) fun b4 =>
        atL x.1 r1.1 fun y5 =>
        some (b4, y5.2.2.2, (0 : Int))

def sh_slices_Delete___passkey_api_Lease_passkey_api_Lease_ (x : (List (Int × Int × Int × Int)) × Int × Int) : Option (List (Int × Int × Int × Int)) :=
  reqP (0 ≤ (x.2.1.toNat : Int) ∧ (x.2.1.toNat : Int) ≤ x.2.2 ∧ x.2.2 ≤ (x.1.length : Int) ∧ (x.1.length : Int) ≤ (x.1.length : Int) ∧ 0 ≤ x.2.1) <|
  if (bEq x.2.1 x.2.2) then
    some x.1
  else
    bnd (x.1.length : Int) fun b0 =>
    reqP (0 ≤ x.2.1 ∧ x.2.1 ≤ (x.1.length : Int)) <|
    reqP (0 ≤ x.2.2 ∧ x.2.2 ≤ (x.1.length : Int)) <|
    reqP ((((x.1.drop (0 + 0)).take (x.2.1.toNat - 0)).length + ((x.1.drop (0 + x.2.2.toNat)).take (x.1.length - x.2.2.toNat)).length) * 32 ≤ 140737488355328) <|
    bnd (((x.1.drop (0 + 0)).take (x.2.1.toNat - 0)) ++ ((x.1.drop (0 + x.2.2.toNat)).take (x.1.length - x.2.2.toNat))) fun b1 =>
    reqP ((b1.length : Int) ≤ (b1.length : Int) ∧ (b1.length : Int) < b0 ∧ b0 ≤ (((max (((x.1.drop (0 + 0)).take (x.2.1.toNat - 0)).length + ((x.1.drop (0 + x.2.2.toNat)).take (x.1.length - x.2.2.toNat)).length) (if (0 + 0) + ((x.1.drop (0 + 0)).take (x.2.1.toNat - 0)).length + ((x.1.drop (0 + x.2.2.toNat)).take (x.1.length - x.2.2.toNat)).length ≤ x.1.length then x.1.length - (0 + 0) else 0)) : Nat) : Int)) <|
    some b1

def sh_lease_Drop (x : (List (Int × Int × Int × Int)) × Int) : Option ((List (Int × Int × Int × Int)) × Int) :=
  Option.bind (sh_lease_held (x.1, x.2)) fun r0 =>
  if (bNe r0.2.2 (0 : Int)) then
    some (([] : List (Int × Int × Int × Int)), r0.2.2)
  else
    Option.bind (sh_slices_Delete___passkey_api_Lease_passkey_api_Lease_ (r0.1, r0.2.1, (iAdd .i64 r0.2.1 (1 : Int)))) fun r1 =>
    some (r1, (0 : Int))

def sh_passkeyref10_Drop (x : (List (Int × Int × Int × Int)) × Int) : Option ((List (Int × Int × Int × Int)) × Int) :=
  Option.bind (sh_passkeyref10_ValidateLeases x.1) fun r0 =>
  if (bNe r0 (0 : Int)) then
    some (([] : List (Int × Int × Int × Int)), r0)
  else
    Option.bind (sh_passkeyref10_FindLease (x.1, x.2)) fun r1 =>
    if (!r1.2) then
      some (([] : List (Int × Int × Int × Int)), (11 : Int))
    else
      reqP (0 ≤ r1.1 ∧ r1.1 ≤ (x.1.length : Int)) <|
      reqP ((x.1.take r1.1.toNat).length * 32 ≤ 140737488355328) <|
      bnd (x.1.take r1.1.toNat) fun b2 =>
      reqP (0 ≤ (iAdd .i64 r1.1 (1 : Int)) ∧ (iAdd .i64 r1.1 (1 : Int)) ≤ (x.1.length : Int)) <|
      reqP ((b2.length + (x.1.drop (iAdd .i64 r1.1 (1 : Int)).toNat).length) * 32 ≤ 140737488355328) <|
      bnd (b2 ++ (x.1.drop (iAdd .i64 r1.1 (1 : Int)).toNat)) fun b3 =>
      some (b3, (0 : Int))

def sh_passkeylaw10_LeaseTakes (x : (List Int) × Int) : Option Bool :=
  Option.bind (sh_passkeylaw10_made x.1) fun r0 =>
  Option.bind (sh_lease_Take (r0, (iConv .u64 (iRem .u8 x.2 (20 : Int))))) fun r1 =>
  Option.bind (sh_passkeyref10_Take (r0, (iConv .u64 (iRem .u8 x.2 (20 : Int))))) fun r2 =>
  Option.bind (sh_lease_Drop (r0, (iConv .u64 (iRem .u8 x.2 (20 : Int))))) fun r3 =>
  Option.bind (sh_passkeyref10_Drop (r0, (iConv .u64 (iRem .u8 x.2 (20 : Int))))) fun r4 =>
  if (bEq r1.2.2 r2.2.2) then
    if (bEq r1.2.1 r2.2.1) then
      Option.bind (sh_passkeyref10_SameLeases (r1.1, r2.1)) fun r5 =>
      if r5 then
        if (bEq r3.2 r4.2) then
          Option.bind (sh_passkeyref10_SameLeases (r3.1, r4.1)) fun r6 =>
          if r6 then
            Option.bind (sh_passkeylaw10_awake ()) fun r7 =>
            some r7
          else
            some false
        else
          some false
      else
        some false
    else
      some false
  else
    some false

def sh_lease_Encode (x : (Int × Int × Int × Int)) : Option (List Int) :=
  Option.bind (sh_lease_valid (x.1, (x.2.1, (x.2.2.1, x.2.2.2)))) fun r0 =>
  if (!r0) then
    some ([] : List Int)
  else
    bnd ((List.replicate 1 (0 : Int)).set 0 x.1) fun b1 =>
    Option.bind (sh_digest_Words b1) fun r2 =>
    bnd ((((List.replicate 3 (0 : Int)).set 0 (iConv .u8 x.2.1)).set 1 (iConv .u8 x.2.2.1)).set 2 (iConv .u8 x.2.2.2)) fun b3 =>
    reqP ((r2.length + b3.length) * 1 ≤ 140737488355328) <|
    bnd (r2 ++ b3) fun b4 =>
    some b4

def sh_passkeyref10_EncodeLease (x : (Int × Int × Int × Int)) : Option (List Int) :=
  Option.bind (sh_passkeyref10_Valid (x.1, (x.2.1, (x.2.2.1, x.2.2.2)))) fun r0 =>
  if (!r0) then
    some ([] : List Int)
  else
    bnd ((List.replicate 1 (0 : Int)).set 0 x.1) fun b1 =>
    Option.bind (sh_passkeyref1_Words b1) fun r2 =>
    bnd ((((List.replicate 3 (0 : Int)).set 0 (iConv .u8 x.2.1)).set 1 (iConv .u8 x.2.2.1)).set 2 (iConv .u8 x.2.2.2)) fun b3 =>
    reqP ((r2.length + b3.length) * 1 ≤ 140737488355328) <|
    bnd (r2 ++ b3) fun b4 =>
    some b4

def sh_lease_word (x : (List Int)) : Option Int :=
  reqP (0 ≤ (8 : Int) ∧ (8 : Int) ≤ (x.length : Int)) <|
  jn (α := Int) (ρ := Int) (loopLim (σ := (Int × (List Int) × Int × Int)) (α := Int ⊕ Int) (fun s0 =>
    if (bLt s0.2.2.2 s0.2.2.1) then
      atL s0.2.1 s0.2.2.2 fun y2 =>
      bnd (iOr .u64 (iShl .u64 s0.1 (8 : Int)) (iConv .u64 y2)) fun b3 =>
      bnd (iAdd .i64 s0.2.2.2 (1 : Int)) fun b4 =>
      some (.inl (b3, s0.2.1, s0.2.2.1, b4))
    else
      some (.inr (.inl s0.1))
  ) ((0 : Int), (x.take (8 : Int).toNat), ((x.take (8 : Int).toNat).length : Int), (0 : Int))) fun j1 =>
  some j1

def sh_lease_Decode (x : (List Int)) : Option (Int × Int × Int × Int × Int) :=
  if (bNe (x.length : Int) (11 : Int)) then
    some ((0 : Int), (0 : Int), (0 : Int), (0 : Int), (2 : Int))
  else
    Option.bind (sh_lease_word x) fun r0 =>
    atL x (8 : Int) fun y1 =>
    atL x (9 : Int) fun y2 =>
    atL x (10 : Int) fun y3 =>
    Option.bind (sh_lease_valid (r0, ((iConv .i64 y1), ((iConv .i64 y2), (iConv .i64 y3))))) fun r4 =>
    if (!r4) then
      some ((0 : Int), (0 : Int), (0 : Int), (0 : Int), (2 : Int))
    else
      some (r0, (iConv .i64 y1), (iConv .i64 y2), (iConv .i64 y3), (0 : Int))

def sh_passkeyref1_Word (x : (List Int)) : Option Int :=
  jn (α := Int) (ρ := Int) (loopLim (σ := ((List Int) × Int × Int)) (α := Int ⊕ Int) (fun s0 =>
    jn (α := ((List Int) × Int × Int × Int × (List Int) × Int × Bool)) (ρ := (((List Int) × Int × Int) ⊕ (Int ⊕ Int))) (
      if (bLt s0.2.2 (8 : Int)) then
        if (bLt s0.2.2 (s0.1.length : Int)) then
          some (.inl (s0.1, s0.2.1, s0.2.2, s0.2.2, s0.1, (s0.1.length : Int), (bLt s0.2.2 (s0.1.length : Int))))
        else
          some (.inr (.inr (.inl s0.2.1)))
      else
        some (.inr (.inr (.inl s0.2.1)))
    ) fun j2 =>
    atL j2.1 j2.2.2.1 fun y3 =>
    bnd (iOr .u64 (iShl .u64 j2.2.1 (8 : Int)) (iConv .u64 y3)) fun b4 =>
    bnd (iAdd .i64 j2.2.2.1 (1 : Int)) fun b5 =>
    some (.inl (j2.1, b4, b5))
  ) (x, (0 : Int), (0 : Int))) fun j1 =>
  some j1

def sh_passkeyref10_DecodeLease (x : (List Int)) : Option (Int × Int × Int × Int × Int) :=
  if (bNe (x.length : Int) (11 : Int)) then
    some ((0 : Int), (0 : Int), (0 : Int), (0 : Int), (2 : Int))
  else
    reqP (0 ≤ (8 : Int) ∧ (8 : Int) ≤ (x.length : Int)) <|
    Option.bind (sh_passkeyref1_Word (x.take (8 : Int).toNat)) fun r0 =>
    atL x (8 : Int) fun y1 =>
    atL x (9 : Int) fun y2 =>
    atL x (10 : Int) fun y3 =>
    Option.bind (sh_passkeyref10_Valid (r0, ((iConv .i64 y1), ((iConv .i64 y2), (iConv .i64 y3))))) fun r4 =>
    if (!r4) then
      some ((0 : Int), (0 : Int), (0 : Int), (0 : Int), (2 : Int))
    else
      some (r0, (iConv .i64 y1), (iConv .i64 y2), (iConv .i64 y3), (0 : Int))

def sh_passkeylaw10_LeaseCodes (x : (Int × Int × Int × Int) × (List Int) × (List Int)) : Option Bool :=
  if (bGt (x.2.2.length : Int) (100 : Int)) then
    Option.bind (sh_passkeylaw10_awake ()) fun r0 =>
    some r0
  else
    Option.bind (sh_passkeylaw10_made x.2.1) fun r1 =>
    bnd ((List.replicate 1 ((0 : Int), ((0 : Int), ((0 : Int), (0 : Int))))).set 0 (x.1.1, (x.1.2.1, (x.1.2.2.1, x.1.2.2.2)))) fun b2 =>
    reqP ((r1.length + b2.length) * 32 ≤ 140737488355328) <|
    bnd (r1 ++ b2) fun b3 =>
    jn (α := (List Int)) (ρ := Bool) (loopLim (σ := ((List (Int × Int × Int × Int)) × (List Int) × Int)) (α := (List Int) ⊕ Bool) (fun s4 =>
      if (bLt s4.2.2 (s4.1.length : Int)) then
        jn (α := ((List (Int × Int × Int × Int)) × (List Int) × Int)) (ρ := (((List (Int × Int × Int × Int)) × (List Int) × Int) ⊕ ((List Int) ⊕ Bool))) (
          reqP (0 ≤ s4.2.2 ∧ s4.2.2 < (s4.1.length : Int)) <|
          Option.bind (sh_lease_Encode ((s4.1.getD s4.2.2.toNat ((0 : Int), ((0 : Int), ((0 : Int), (0 : Int))))).1, ((s4.1.getD s4.2.2.toNat ((0 : Int), ((0 : Int), ((0 : Int), (0 : Int))))).2.1, ((s4.1.getD s4.2.2.toNat ((0 : Int), ((0 : Int), ((0 : Int), (0 : Int))))).2.2.1, (s4.1.getD s4.2.2.toNat ((0 : Int), ((0 : Int), ((0 : Int), (0 : Int))))).2.2.2)))) fun r7 =>
          reqP (0 ≤ s4.2.2 ∧ s4.2.2 < (s4.1.length : Int)) <|
          Option.bind (sh_passkeyref10_EncodeLease ((s4.1.getD s4.2.2.toNat ((0 : Int), ((0 : Int), ((0 : Int), (0 : Int))))).1, ((s4.1.getD s4.2.2.toNat ((0 : Int), ((0 : Int), ((0 : Int), (0 : Int))))).2.1, ((s4.1.getD s4.2.2.toNat ((0 : Int), ((0 : Int), ((0 : Int), (0 : Int))))).2.2.1, (s4.1.getD s4.2.2.toNat ((0 : Int), ((0 : Int), ((0 : Int), (0 : Int))))).2.2.2)))) fun r8 =>
          if (!(sEq (ofBytes r7) (ofBytes r8))) then
            some (.inr (.inr (.inr false)))
          else
            Option.bind (sh_lease_Decode r7) fun r9 =>
            if (bGt (r7.length : Int) (0 : Int)) then
              if (bNe r9.2.2.2.2 (0 : Int)) then
                some (.inr (.inr (.inr false)))
              else
                reqP (0 ≤ s4.2.2 ∧ s4.2.2 < (s4.1.length : Int)) <|
                if (!((bEq r9.1 (s4.1.getD s4.2.2.toNat ((0 : Int), ((0 : Int), ((0 : Int), (0 : Int))))).1) && ((bEq r9.2.1 (s4.1.getD s4.2.2.toNat ((0 : Int), ((0 : Int), ((0 : Int), (0 : Int))))).2.1) && ((bEq r9.2.2.1 (s4.1.getD s4.2.2.toNat ((0 : Int), ((0 : Int), ((0 : Int), (0 : Int))))).2.2.1) && ((bEq r9.2.2.2.1 (s4.1.getD s4.2.2.toNat ((0 : Int), ((0 : Int), ((0 : Int), (0 : Int))))).2.2.2) && true))))) then
                  some (.inr (.inr (.inr false)))
                else
                  some (.inl (s4.1, s4.2.1, s4.2.2))
            else
              some (.inl (s4.1, s4.2.1, s4.2.2))
        ) fun j6 =>
        bnd (iAdd .i64 j6.2.2 (1 : Int)) fun b10 =>
        some (.inl (j6.1, j6.2.1, b10))
      else
        some (.inr (.inl s4.2.1))
    ) (b3, x.2.2, (0 : Int))) fun j5 =>
    Option.bind (sh_lease_Decode j5) fun r11 =>
    Option.bind (sh_passkeyref10_DecodeLease j5) fun r12 =>
    reqP (0 ≤ (iMin (j5.length : Int) (11 : Int)) ∧ (iMin (j5.length : Int) (11 : Int)) ≤ (j5.length : Int)) <|
    Option.bind (sh_lease_Decode (j5.take (iMin (j5.length : Int) (11 : Int)).toNat)) fun r13 =>
    reqP (0 ≤ (iMin (j5.length : Int) (11 : Int)) ∧ (iMin (j5.length : Int) (11 : Int)) ≤ (j5.length : Int)) <|
    Option.bind (sh_passkeyref10_DecodeLease (j5.take (iMin (j5.length : Int) (11 : Int)).toNat)) fun r14 =>
    if ((bEq r11.1 r12.1) && ((bEq r11.2.1 r12.2.1) && ((bEq r11.2.2.1 r12.2.2.1) && ((bEq r11.2.2.2.1 r12.2.2.2.1) && true)))) then
      if (bEq r11.2.2.2.2 r12.2.2.2.2) then
        if ((bEq r13.1 r14.1) && ((bEq r13.2.1 r14.2.1) && ((bEq r13.2.2.1 r14.2.2.1) && ((bEq r13.2.2.2.1 r14.2.2.2.1) && true)))) then
          if (bEq r13.2.2.2.2 r14.2.2.2.2) then
            Option.bind (sh_passkeylaw10_awake ()) fun r15 =>
            some r15
          else
            some false
        else
          some false
      else
        some false
    else
      some false
end
end Go.Vm
