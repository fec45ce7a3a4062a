/- What the functions compute. PRINTED by a program of this session's. -/
import Derived.Test.YtippilcegapjfaaV5
set_option linter.unusedVariables false
namespace Go.Vm
noncomputable section
def sh_digest_Words (x : (List Int)) : Option (List Int) :=
  jn (α := (List Int)) (ρ := (List Int)) (loopLim (σ := ((List Int) × (List Int) × Int × Int)) (α := (List Int) ⊕ (List Int)) (fun s0 =>
    if (bLt s0.2.2.2 s0.2.2.1) then
      atL s0.2.1 s0.2.2.2 fun y2 =>
      jn (α := ((List Int) × (List Int) × Int × Int)) (ρ := (((List Int) × (List Int) × Int × Int) ⊕ ((List Int) ⊕ (List Int)))) (loopLim (σ := ((List Int) × Int × (List Int) × Int × Int × Int)) (α := ((List Int) × (List Int) × Int × Int) ⊕ (((List Int) × (List Int) × Int × Int) ⊕ ((List Int) ⊕ (List Int)))) (fun s3 =>
        if (bLt s3.2.2.2.2.2 (8 : Int)) then
          reqP (0 ≤ (iSub .i64 (56 : Int) (iMul .i64 (8 : Int) s3.2.2.2.2.2))) <|
          bnd ((List.replicate 1 (0 : Int)).set 0 (iConv .u8 (iShr .u64 s3.2.1 (iSub .i64 (56 : Int) (iMul .i64 (8 : Int) s3.2.2.2.2.2))))) fun b5 =>
          reqP ((s3.1.length + b5.length) * 1 ≤ 140737488355328) <|
          bnd (s3.1 ++ b5) fun b6 =>
          bnd (iAdd .i64 s3.2.2.2.2.2 (1 : Int)) fun b7 =>
          some (.inl (b6, s3.2.1, s3.2.2.1, s3.2.2.2.1, s3.2.2.2.2.1, b7))
        else
          some (.inr (.inl (s3.1, s3.2.2.1, s3.2.2.2.1, s3.2.2.2.2.1)))
      ) (s0.1, y2, s0.2.1, s0.2.2.1, s0.2.2.2, (0 : Int))) fun j4 =>
      bnd (iAdd .i64 j4.2.2.2 (1 : Int)) fun b8 =>
      some (.inl (j4.1, j4.2.1, j4.2.2.1, b8))
    else
      some (.inr (.inl s0.1))
  ) (([] : List Int), x, (x.length : Int), (0 : Int))) fun j1 =>
  some j1

def sh_digest_little (x : (List Int)) : Option Int :=
  jn (α := Int) (ρ := Int) (loopLim (σ := (Int × (List Int) × Int × Int)) (α := Int ⊕ Int) (fun s0 =>
    if (bLt s0.2.2.2 s0.2.2.1) then
      atL s0.2.1 s0.2.2.2 fun y2 =>
      reqP (0 ≤ (iMul .i64 (8 : Int) s0.2.2.2)) <|
      bnd (iOr .u64 s0.1 (iShl .u64 (iConv .u64 y2) (iMul .i64 (8 : Int) s0.2.2.2))) fun b3 =>
      bnd (iAdd .i64 s0.2.2.2 (1 : Int)) fun b4 =>
      some (.inl (b3, s0.2.1, s0.2.2.1, b4))
    else
      some (.inr (.inl s0.1))
  ) ((0 : Int), x, (x.length : Int), (0 : Int))) fun j1 =>
  some j1

def sh_math_bits_RotateLeft64 (x : Int × Int) : Option Int :=
  bnd (iAnd .u64 (iConv .u64 x.2) (63 : Int)) fun b0 =>
  reqP (0 ≤ b0) <|
  reqP (0 ≤ (iSub .u64 (64 : Int) b0)) <|
  bnd (iOr .u64 (iShl .u64 x.1 b0) (iShr .u64 x.1 (iSub .u64 (64 : Int) b0))) fun b1 =>
  some b1

def sh___passkey_digest_state__round (x : Int × Int × Int × Int × Int) : Option (Int × Int × Int × Int) :=
  jn (α := (Int × Int × Int × Int)) (ρ := (Int × Int × Int × Int)) (loopLim (σ := (Int × Int × Int × Int × Int × Int)) (α := (Int × Int × Int × Int) ⊕ (Int × Int × Int × Int)) (fun s0 =>
    if (bLt s0.2.2.2.2.2 s0.2.2.2.2.1) then
      bnd (iAdd .u64 s0.1 s0.2.1) fun b2 =>
      Option.bind (sh_math_bits_RotateLeft64 (s0.2.1, (13 : Int))) fun r3 =>
      bnd (iXor .u64 r3 b2) fun b4 =>
      Option.bind (sh_math_bits_RotateLeft64 (b2, (32 : Int))) fun r5 =>
      bnd (iAdd .u64 s0.2.2.1 s0.2.2.2.1) fun b6 =>
      Option.bind (sh_math_bits_RotateLeft64 (s0.2.2.2.1, (16 : Int))) fun r7 =>
      bnd (iXor .u64 r7 b6) fun b8 =>
      bnd (iAdd .u64 r5 b8) fun b9 =>
      Option.bind (sh_math_bits_RotateLeft64 (b8, (21 : Int))) fun r10 =>
      bnd (iXor .u64 r10 b9) fun b11 =>
      bnd (iAdd .u64 b6 b4) fun b12 =>
      Option.bind (sh_math_bits_RotateLeft64 (b4, (17 : Int))) fun r13 =>
      bnd (iXor .u64 r13 b12) fun b14 =>
      Option.bind (sh_math_bits_RotateLeft64 (b12, (32 : Int))) fun r15 =>
      bnd (iAdd .i64 s0.2.2.2.2.2 (1 : Int)) fun b16 =>
      some (.inl (b9, b14, r15, b11, s0.2.2.2.2.1, b16))
    else
      some (.inr (.inl (s0.1, s0.2.1, s0.2.2.1, s0.2.2.2.1)))
  ) (x.1, x.2.1, x.2.2.1, x.2.2.2.1, x.2.2.2.2, (0 : Int))) fun j1 =>
  some (j1.1, j1.2.1, j1.2.2.1, j1.2.2.2)

def sh___passkey_digest_state__word (x : Int × Int × Int × Int × Int) : Option (Int × Int × Int × Int) :=
  bnd (iXor .u64 x.2.2.2.1 x.2.2.2.2) fun b0 =>
  Option.bind (sh___passkey_digest_state__round (x.1, x.2.1, x.2.2.1, b0, (2 : Int))) fun r1 =>
  bnd (iXor .u64 r1.1 x.2.2.2.2) fun b2 =>
  some (b2, r1.2.1, r1.2.2.1, r1.2.2.2)

def sh_digest_Sum (x : Int × Int × (List Int)) : Option Int :=
  bnd (iShl .u64 (iConv .u64 (x.2.2.length : Int)) (56 : Int)) fun b0 =>
  jn (α := (Int × Int × Int × Int × (List Int) × Int)) (ρ := Int) (loopLim (σ := (Int × Int × Int × Int × (List Int) × Int)) (α := (Int × Int × Int × Int × (List Int) × Int) ⊕ Int) (fun s1 =>
    if (bGe (s1.2.2.2.2.1.length : Int) (8 : Int)) then
      reqP (0 ≤ (8 : Int) ∧ (8 : Int) ≤ (s1.2.2.2.2.1.length : Int)) <|
      Option.bind (sh_digest_little (s1.2.2.2.2.1.take (8 : Int).toNat)) fun r3 =>
      Option.bind (sh___passkey_digest_state__word (s1.1, s1.2.1, s1.2.2.1, s1.2.2.2.1, r3)) fun r4 =>
      reqP (0 ≤ (8 : Int) ∧ (8 : Int) ≤ (s1.2.2.2.2.1.length : Int)) <|
      some (.inl (r4.1, r4.2.1, r4.2.2.1, r4.2.2.2, (s1.2.2.2.2.1.drop (8 : Int).toNat), s1.2.2.2.2.2))
    else
      some (.inr (.inl (s1.1, s1.2.1, s1.2.2.1, s1.2.2.2.1, s1.2.2.2.2.1, s1.2.2.2.2.2)))
  ) ((iXor .u64 x.1 (8317987319222330741 : Int)), (iXor .u64 x.2.1 (7237128888997146477 : Int)), (iXor .u64 x.1 (7816392313619706465 : Int)), (iXor .u64 x.2.1 (8387220255154660723 : Int)), x.2.2, b0)) fun j2 =>
  Option.bind (sh_digest_little j2.2.2.2.2.1) fun r5 =>
  Option.bind (sh___passkey_digest_state__word (j2.1, j2.2.1, j2.2.2.1, j2.2.2.2.1, (iOr .u64 j2.2.2.2.2.2 r5))) fun r6 =>
  bnd (iXor .u64 r6.2.2.1 (255 : Int)) fun b7 =>
  Option.bind (sh___passkey_digest_state__round (r6.1, r6.2.1, b7, r6.2.2.2, (4 : Int))) fun r8 =>
  bnd (iXor .u64 (iXor .u64 (iXor .u64 r8.1 r8.2.1) r8.2.2.1) r8.2.2.2) fun b9 =>
  some b9

def sh_digest_Mac (x : Int × Int × (List Int)) : Option Int :=
  Option.bind (sh_digest_Sum (x.1, (iAdd .u64 (1 : Int) (iConv .u64 x.2.1)), x.2.2)) fun r0 =>
  some r0

def sh_slices_Clone___byte_byte_ (x : (List Int)) : Option ((List Int)) :=
  reqP (x.length * 1 ≤ 140737488355328) <|
  some x

def sh_session_New (x : Int) : Option (Int × Int × (List (Int × (List UInt8) × (List Int) × Int × Int × Int))) :=
  some (x, (0 : Int), ([] : List (Int × (List UInt8) × (List Int) × Int × Int × Int)))

def sh_session_bad (x : Int) : Option Bool :=
  if (bLt x (0 : Int)) then
    some true
  else
    bnd (bGt x (1099511627776 : Int)) fun b0 =>
    some b0

def sh_session_Expire_1 (x : (Int × (List UInt8) × (List Int) × Int × Int × Int) × Int) : Option Bool :=
  Option.bind (sh_session_bad x.2) fun r0 =>
  if (!r0) then
    bnd (bGt x.2 x.1.2.2.2.2.2) fun b1 =>
    some b1
  else
    some false

def sh_session_without (x : (Int × Int × List (Int × (List UInt8) × (List Int) × Int × Int × Int)) × Int) : Option (Int × Int × (List (Int × (List UInt8) × (List Int) × Int × Int × Int))) :=
  jn (α := (Int × Int × Int × Int × (List (Int × (List UInt8) × (List Int) × Int × Int × Int)))) (ρ := (Int × Int × (List (Int × (List UInt8) × (List Int) × Int × Int × Int)))) (loopLim (σ := (Int × Int × Int × Int × (List (Int × (List UInt8) × (List Int) × Int × Int × Int)) × Int × (List (Int × (List UInt8) × (List Int) × Int × Int × Int)) × Int × Int)) (α := (Int × Int × Int × Int × (List (Int × (List UInt8) × (List Int) × Int × Int × Int))) ⊕ (Int × Int × (List (Int × (List UInt8) × (List Int) × Int × Int × Int)))) (fun s0 =>
    if (bLt s0.2.2.2.2.2.2.2.2 s0.2.2.2.2.2.2.2.1) then
      atL s0.2.2.2.2.2.2.1 s0.2.2.2.2.2.2.2.2 fun y2 =>
      Option.bind (sh_session_Expire_1 ((y2.1, (y2.2.1, (y2.2.2.1, (y2.2.2.2.1, (y2.2.2.2.2.1, y2.2.2.2.2.2))))), s0.2.2.2.2.2.1)) fun r3 =>
      if (!r3) then
        bnd ((List.replicate 1 ((0 : Int), (([] : List UInt8), (([] : List Int), ((0 : Int), ((0 : Int), (0 : Int))))))).set 0 (y2.1, (y2.2.1, (y2.2.2.1, (y2.2.2.2.1, (y2.2.2.2.2.1, y2.2.2.2.2.2)))))) fun b4 =>
        reqP ((s0.2.2.2.2.1.length + b4.length) * 72 ≤ 140737488355328) <|
        bnd (s0.2.2.2.2.1 ++ b4) fun b5 =>
        bnd (iAdd .i64 s0.2.2.2.2.2.2.2.2 (1 : Int)) fun b6 =>
        some (.inl (s0.1, s0.2.1, s0.2.2.1, s0.2.2.2.1, b5, s0.2.2.2.2.2.1, s0.2.2.2.2.2.2.1, s0.2.2.2.2.2.2.2.1, b6))
      else
        bnd (iAdd .i64 s0.2.2.2.2.2.2.2.2 (1 : Int)) fun b7 =>
        some (.inl (s0.1, s0.2.1, s0.2.2.1, s0.2.2.2.1, s0.2.2.2.2.1, s0.2.2.2.2.2.1, s0.2.2.2.2.2.2.1, s0.2.2.2.2.2.2.2.1, b7))
    else
      some (.inr (.inl (s0.1, s0.2.1, s0.2.2.1, s0.2.2.2.1, s0.2.2.2.2.1)))
  ) ((0 : Int), (0 : Int), x.1.1, x.1.2.1, ([] : List (Int × (List UInt8) × (List Int) × Int × Int × Int)), x.2, x.1.2.2, (x.1.2.2.length : Int), (0 : Int))) fun j1 =>
  some (j1.2.2.1, j1.2.2.2.1, j1.2.2.2.2)

def sh_session_Expire (x : (Int × Int × List (Int × (List UInt8) × (List Int) × Int × Int × Int)) × Int) : Option (Int × Int × (List (Int × (List UInt8) × (List Int) × Int × Int × Int))) :=
  Option.bind (sh_session_without ((x.1.1, (x.1.2.1, x.1.2.2)), x.2)) fun r0 =>
  some (r0.1, r0.2.1, r0.2.2)

def sh_session_Bytes (x : (Int × Int × List (Int × (List UInt8) × (List Int) × Int × Int × Int)) × (Int × (List UInt8) × (List Int) × Int × Int × Int)) : Option (List Int) :=
  bnd (((List.replicate 2 (0 : Int)).set 0 (iConv .u64 x.2.1)).set 1 (iConv .u64 x.2.2.2.2.2.1)) fun b0 =>
  Option.bind (sh_digest_Words b0) fun r1 =>
  reqP ((r1.length + (toBytes x.2.2.1).length) * 1 ≤ 140737488355328) <|
  bnd (r1 ++ (toBytes x.2.2.1)) fun b2 =>
  Option.bind (sh_digest_Mac (x.1.1, (18 : Int), b2)) fun r3 =>
  bnd (((List.replicate 2 (0 : Int)).set 0 (iConv .u64 x.2.1)).set 1 r3) fun b4 =>
  Option.bind (sh_digest_Words b4) fun r5 =>
  some r5

def sh_session_Open (x : (Int × Int × List (Int × (List UInt8) × (List Int) × Int × Int × Int)) × (List UInt8) × (List Int) × Int × Int × Int) : Option (Int × Int × (List (Int × (List UInt8) × (List Int) × Int × Int × Int)) × (List Int) × Int) :=
  jn (α := (Int × Int × Int × Int × (List (Int × (List UInt8) × (List Int) × Int × Int × Int)) × (List UInt8) × (List Int) × Int × Int × Int)) (ρ := (Int × Int × (List (Int × (List UInt8) × (List Int) × Int × Int × Int)) × (List Int) × Int)) (
    Option.bind (sh_session_bad x.2.2.2.2.1) fun r1 =>
    if r1 then
      some (.inr (x.1.1, x.1.2.1, x.1.2.2, ([] : List Int), (9 : Int)))
    else
      if (bLt x.2.2.2.2.2 (1 : Int)) then
        some (.inr (x.1.1, x.1.2.1, x.1.2.2, ([] : List Int), (9 : Int)))
      else
        if (bGt x.2.2.2.2.2 (1099511627776 : Int)) then
          some (.inr (x.1.1, x.1.2.1, x.1.2.2, ([] : List Int), (9 : Int)))
        else
          some (.inl ((0 : Int), (0 : Int), x.1.1, x.1.2.1, x.1.2.2, x.2.1, x.2.2.1, x.2.2.2.1, x.2.2.2.2.1, x.2.2.2.2.2))
  ) fun j0 =>
  Option.bind (sh_session_Expire ((j0.2.2.1, (j0.2.2.2.1, j0.2.2.2.2.1)), j0.2.2.2.2.2.2.2.2.1)) fun r2 =>
  jn (α := (Int × Int × (List (Int × (List UInt8) × (List Int) × Int × Int × Int)) × Int × Int × Int × Int × Nat × Nat × (List (Int × (List UInt8) × (List Int) × Int × Int × Int)) × (List UInt8) × (List Int) × Int × Int × Int)) (ρ := (Int × Int × (List (Int × (List UInt8) × (List Int) × Int × Int × Int)) × (List Int) × Int)) (
    if (bGe (r2.2.2.length : Int) (32 : Int)) then
      reqP (0 ≤ (1 : Int) ∧ (1 : Int) ≤ (r2.2.2.length : Int)) <|
      some (.inl (j0.2.2.1, j0.2.2.2.1, j0.2.2.2.2.1, j0.1, j0.2.1, r2.1, r2.2.1, (0 + (1 : Int).toNat), (r2.2.2.length - (1 : Int).toNat), r2.2.2, j0.2.2.2.2.2.1, j0.2.2.2.2.2.2.1, j0.2.2.2.2.2.2.2.1, j0.2.2.2.2.2.2.2.2.1, j0.2.2.2.2.2.2.2.2.2))
    else
      some (.inl (j0.2.2.1, j0.2.2.2.1, j0.2.2.2.2.1, j0.1, j0.2.1, r2.1, r2.2.1, 0, r2.2.2.length, r2.2.2, j0.2.2.2.2.2.1, j0.2.2.2.2.2.2.1, j0.2.2.2.2.2.2.2.1, j0.2.2.2.2.2.2.2.2.1, j0.2.2.2.2.2.2.2.2.2))
  ) fun j3 =>
  Option.bind (sh_slices_Clone___byte_byte_ j3.2.2.2.2.2.2.2.2.2.2.2.1) fun r4 =>
  bnd (iAdd .i64 j3.2.2.2.2.2.2.1 (1 : Int)) fun b5 =>
  bnd ((List.replicate 1 ((0 : Int), (([] : List UInt8), (([] : List Int), ((0 : Int), ((0 : Int), (0 : Int))))))).set 0 (j3.2.1, (j3.2.2.2.2.2.2.2.2.2.2.1, (r4, (j3.2.2.2.2.2.2.2.2.2.2.2.2.1, (j3.2.2.2.2.2.2.2.2.2.2.2.2.2.1, (iMin (iAdd .i64 j3.2.2.2.2.2.2.2.2.2.2.2.2.2.1 j3.2.2.2.2.2.2.2.2.2.2.2.2.2.2) (1099511627776 : Int)))))))) fun b6 =>
  reqP ((((j3.2.2.2.2.2.2.2.2.2.1.drop j3.2.2.2.2.2.2.2.1).take j3.2.2.2.2.2.2.2.2.1).length + b6.length) * 72 ≤ 140737488355328) <|
  bnd (((j3.2.2.2.2.2.2.2.2.2.1.drop j3.2.2.2.2.2.2.2.1).take j3.2.2.2.2.2.2.2.2.1) ++ b6) fun b7 =>
  Option.bind (sh_session_Bytes ((j3.2.2.2.2.2.1, (b5, b7)), (j3.2.1, (j3.2.2.2.2.2.2.2.2.2.2.1, (r4, (j3.2.2.2.2.2.2.2.2.2.2.2.2.1, (j3.2.2.2.2.2.2.2.2.2.2.2.2.2.1, (iMin (iAdd .i64 j3.2.2.2.2.2.2.2.2.2.2.2.2.2.1 j3.2.2.2.2.2.2.2.2.2.2.2.2.2.2) (1099511627776 : Int))))))))) fun r8 =>
  some (j3.2.2.2.2.2.1, b5, b7, r8, (0 : Int))

def sh_session_find_1 (x : (Int × (List UInt8) × (List Int) × Int × Int × Int) × Int × (Int × Int × List (Int × (List UInt8) × (List Int) × Int × Int × Int)) × (List Int)) : Option Bool :=
  if (bLe x.2.1 x.1.2.2.2.2.2) then
    Option.bind (sh_session_Bytes ((x.2.2.1.1, (x.2.2.1.2.1, x.2.2.1.2.2)), (x.1.1, (x.1.2.1, (x.1.2.2.1, (x.1.2.2.2.1, (x.1.2.2.2.2.1, x.1.2.2.2.2.2))))))) fun r0 =>
    bnd (sEq (ofBytes r0) (ofBytes x.2.2.2)) fun b1 =>
    some b1
  else
    some false

def sh_slices_IndexFunc___passkey_api_Session_passkey_api_Session_ (x : (List (Int × (List UInt8) × (List Int) × Int × Int × Int)) × Int × (Int × Int × List (Int × (List UInt8) × (List Int) × Int × Int × Int)) × (List Int)) : Option Int :=
  jn (α := (Unit)) (ρ := Int) (loopLim (σ := ((List (Int × (List UInt8) × (List Int) × Int × Int × Int)) × Int × (Int × Int × List (Int × (List UInt8) × (List Int) × Int × Int × Int)) × (List Int) × Int × Int)) (α := (Unit) ⊕ Int) (fun s0 =>
    if (bLt s0.2.2.2.2.2 s0.2.2.2.2.1) then
      atL s0.1 s0.2.2.2.2.2 fun y2 =>
      Option.bind (sh_session_find_1 ((y2.1, (y2.2.1, (y2.2.2.1, (y2.2.2.2.1, (y2.2.2.2.2.1, y2.2.2.2.2.2))))), s0.2.1, s0.2.2.1, s0.2.2.2.1)) fun r3 =>
      if r3 then
        some (.inr (.inr s0.2.2.2.2.2))
      else
        bnd (iAdd .i64 s0.2.2.2.2.2 (1 : Int)) fun b4 =>
        some (.inl (s0.1, s0.2.1, s0.2.2.1, s0.2.2.2.1, s0.2.2.2.2.1, b4))
    else
      some (.inr (.inl ()))
  ) (x.1, x.2.1, x.2.2.1, x.2.2.2, (x.1.length : Int), (0 : Int))) fun j1 =>
  some (-1 : Int)

def sh_session_find (x : (Int × Int × List (Int × (List UInt8) × (List Int) × Int × Int × Int)) × (List Int) × Int) : Option Int :=
  Option.bind (sh_slices_IndexFunc___passkey_api_Session_passkey_api_Session_ (x.1.2.2, x.2.2, (x.1.1, (x.1.2.1, x.1.2.2)), x.2.1)) fun r0 =>
  some r0

def sh_session_Check (x : (Int × Int × List (Int × (List UInt8) × (List Int) × Int × Int × Int)) × (List Int) × Int) : Option (Int × (List UInt8) × (List Int) × Int × Int × Int × Int) :=
  Option.bind (sh_session_bad x.2.2) fun r0 =>
  if r0 then
    some ((0 : Int), ([] : List UInt8), ([] : List Int), (0 : Int), (0 : Int), (0 : Int), (9 : Int))
  else
    Option.bind (sh_session_find ((x.1.1, (x.1.2.1, x.1.2.2)), x.2.1, x.2.2)) fun r1 =>
    if (bLt r1 (0 : Int)) then
      some ((0 : Int), ([] : List UInt8), ([] : List Int), (0 : Int), (0 : Int), (0 : Int), (11 : Int))
    else
      atL x.1.2.2 r1 fun y2 =>
      Option.bind (sh_slices_Clone___byte_byte_ y2.2.2.1) fun r3 =>
      some (y2.1, y2.2.1, r3, y2.2.2.2.1, y2.2.2.2.2.1, y2.2.2.2.2.2, (0 : Int))

def sh_session_Close_1 (x : (Int × (List UInt8) × (List Int) × Int × Int × Int) × Int) : Option Bool :=
  bnd (bEq x.1.1 x.2) fun b0 =>
  some b0

def sh_session_without_2 (x : (Int × Int × List (Int × (List UInt8) × (List Int) × Int × Int × Int)) × Int) : Option (Int × Int × (List (Int × (List UInt8) × (List Int) × Int × Int × Int))) :=
  jn (α := (Int × Int × Int × Int × (List (Int × (List UInt8) × (List Int) × Int × Int × Int)))) (ρ := (Int × Int × (List (Int × (List UInt8) × (List Int) × Int × Int × Int)))) (loopLim (σ := (Int × Int × Int × Int × (List (Int × (List UInt8) × (List Int) × Int × Int × Int)) × Int × (List (Int × (List UInt8) × (List Int) × Int × Int × Int)) × Int × Int)) (α := (Int × Int × Int × Int × (List (Int × (List UInt8) × (List Int) × Int × Int × Int))) ⊕ (Int × Int × (List (Int × (List UInt8) × (List Int) × Int × Int × Int)))) (fun s0 =>
    if (bLt s0.2.2.2.2.2.2.2.2 s0.2.2.2.2.2.2.2.1) then
      atL s0.2.2.2.2.2.2.1 s0.2.2.2.2.2.2.2.2 fun y2 =>
      Option.bind (sh_session_Close_1 ((y2.1, (y2.2.1, (y2.2.2.1, (y2.2.2.2.1, (y2.2.2.2.2.1, y2.2.2.2.2.2))))), s0.2.2.2.2.2.1)) fun r3 =>
      if (!r3) then
        bnd ((List.replicate 1 ((0 : Int), (([] : List UInt8), (([] : List Int), ((0 : Int), ((0 : Int), (0 : Int))))))).set 0 (y2.1, (y2.2.1, (y2.2.2.1, (y2.2.2.2.1, (y2.2.2.2.2.1, y2.2.2.2.2.2)))))) fun b4 =>
        reqP ((s0.2.2.2.2.1.length + b4.length) * 72 ≤ 140737488355328) <|
        bnd (s0.2.2.2.2.1 ++ b4) fun b5 =>
        bnd (iAdd .i64 s0.2.2.2.2.2.2.2.2 (1 : Int)) fun b6 =>
        some (.inl (s0.1, s0.2.1, s0.2.2.1, s0.2.2.2.1, b5, s0.2.2.2.2.2.1, s0.2.2.2.2.2.2.1, s0.2.2.2.2.2.2.2.1, b6))
      else
        bnd (iAdd .i64 s0.2.2.2.2.2.2.2.2 (1 : Int)) fun b7 =>
        some (.inl (s0.1, s0.2.1, s0.2.2.1, s0.2.2.2.1, s0.2.2.2.2.1, s0.2.2.2.2.2.1, s0.2.2.2.2.2.2.1, s0.2.2.2.2.2.2.2.1, b7))
    else
      some (.inr (.inl (s0.1, s0.2.1, s0.2.2.1, s0.2.2.2.1, s0.2.2.2.2.1)))
  ) ((0 : Int), (0 : Int), x.1.1, x.1.2.1, ([] : List (Int × (List UInt8) × (List Int) × Int × Int × Int)), x.2, x.1.2.2, (x.1.2.2.length : Int), (0 : Int))) fun j1 =>
  some (j1.2.2.1, j1.2.2.2.1, j1.2.2.2.2)

def sh_session_Close (x : (Int × Int × List (Int × (List UInt8) × (List Int) × Int × Int × Int)) × (List Int) × Int) : Option (Int × Int × (List (Int × (List UInt8) × (List Int) × Int × Int × Int)) × Int) :=
  Option.bind (sh_session_bad x.2.2) fun r0 =>
  if r0 then
    some (x.1.1, x.1.2.1, x.1.2.2, (9 : Int))
  else
    Option.bind (sh_session_find ((x.1.1, (x.1.2.1, x.1.2.2)), x.2.1, x.2.2)) fun r1 =>
    if (bLt r1 (0 : Int)) then
      some (x.1.1, x.1.2.1, x.1.2.2, (11 : Int))
    else
      atL x.1.2.2 r1 fun y2 =>
      Option.bind (sh_session_Expire ((x.1.1, (x.1.2.1, x.1.2.2)), x.2.2)) fun r3 =>
      Option.bind (sh_session_without_2 ((r3.1, (r3.2.1, r3.2.2)), y2.1)) fun r4 =>
      some (r4.1, r4.2.1, r4.2.2, (0 : Int))

def sh_session_RevokeModel_1 (x : (Int × (List UInt8) × (List Int) × Int × Int × Int) × Int) : Option Bool :=
  if (bNe x.2 (0 : Int)) then
    bnd (bEq x.1.2.2.2.1 x.2) fun b0 =>
    some b0
  else
    some false

def sh_session_without_3 (x : (Int × Int × List (Int × (List UInt8) × (List Int) × Int × Int × Int)) × Int) : Option (Int × Int × (List (Int × (List UInt8) × (List Int) × Int × Int × Int))) :=
  jn (α := (Int × Int × Int × Int × (List (Int × (List UInt8) × (List Int) × Int × Int × Int)))) (ρ := (Int × Int × (List (Int × (List UInt8) × (List Int) × Int × Int × Int)))) (loopLim (σ := (Int × Int × Int × Int × (List (Int × (List UInt8) × (List Int) × Int × Int × Int)) × Int × (List (Int × (List UInt8) × (List Int) × Int × Int × Int)) × Int × Int)) (α := (Int × Int × Int × Int × (List (Int × (List UInt8) × (List Int) × Int × Int × Int))) ⊕ (Int × Int × (List (Int × (List UInt8) × (List Int) × Int × Int × Int)))) (fun s0 =>
    if (bLt s0.2.2.2.2.2.2.2.2 s0.2.2.2.2.2.2.2.1) then
      atL s0.2.2.2.2.2.2.1 s0.2.2.2.2.2.2.2.2 fun y2 =>
      Option.bind (sh_session_RevokeModel_1 ((y2.1, (y2.2.1, (y2.2.2.1, (y2.2.2.2.1, (y2.2.2.2.2.1, y2.2.2.2.2.2))))), s0.2.2.2.2.2.1)) fun r3 =>
      if (!r3) then
        bnd ((List.replicate 1 ((0 : Int), (([] : List UInt8), (([] : List Int), ((0 : Int), ((0 : Int), (0 : Int))))))).set 0 (y2.1, (y2.2.1, (y2.2.2.1, (y2.2.2.2.1, (y2.2.2.2.2.1, y2.2.2.2.2.2)))))) fun b4 =>
        reqP ((s0.2.2.2.2.1.length + b4.length) * 72 ≤ 140737488355328) <|
        bnd (s0.2.2.2.2.1 ++ b4) fun b5 =>
        bnd (iAdd .i64 s0.2.2.2.2.2.2.2.2 (1 : Int)) fun b6 =>
        some (.inl (s0.1, s0.2.1, s0.2.2.1, s0.2.2.2.1, b5, s0.2.2.2.2.2.1, s0.2.2.2.2.2.2.1, s0.2.2.2.2.2.2.2.1, b6))
      else
        bnd (iAdd .i64 s0.2.2.2.2.2.2.2.2 (1 : Int)) fun b7 =>
        some (.inl (s0.1, s0.2.1, s0.2.2.1, s0.2.2.2.1, s0.2.2.2.2.1, s0.2.2.2.2.2.1, s0.2.2.2.2.2.2.1, s0.2.2.2.2.2.2.2.1, b7))
    else
      some (.inr (.inl (s0.1, s0.2.1, s0.2.2.1, s0.2.2.2.1, s0.2.2.2.2.1)))
  ) ((0 : Int), (0 : Int), x.1.1, x.1.2.1, ([] : List (Int × (List UInt8) × (List Int) × Int × Int × Int)), x.2, x.1.2.2, (x.1.2.2.length : Int), (0 : Int))) fun j1 =>
  some (j1.2.2.1, j1.2.2.2.1, j1.2.2.2.2)

def sh_session_RevokeModel (x : (Int × Int × List (Int × (List UInt8) × (List Int) × Int × Int × Int)) × Int) : Option (Int × Int × (List (Int × (List UInt8) × (List Int) × Int × Int × Int))) :=
  Option.bind (sh_session_without_3 ((x.1.1, (x.1.2.1, x.1.2.2)), x.2)) fun r0 =>
  some (r0.1, r0.2.1, r0.2.2)

def sh_passkeylaw34_awake (x : Unit) : Option Bool :=
  Option.bind (sh_session_New (7 : Int)) fun r0 =>
  bnd ((List.replicate 1 (0 : Int)).set 0 (1 : Int)) fun b1 =>
  Option.bind (sh_session_Open ((r0.1, (r0.2.1, r0.2.2)), ([97, 108, 105, 99, 101] : List UInt8), b1, (3 : Int), (10 : Int), (5 : Int))) fun r2 =>
  Option.bind (sh_session_Check ((r2.1, (r2.2.1, r2.2.2.1)), r2.2.2.2.1, (15 : Int))) fun r3 =>
  Option.bind (sh_session_Check ((r2.1, (r2.2.1, r2.2.2.1)), r2.2.2.2.1, (16 : Int))) fun r4 =>
  Option.bind (sh_session_Close ((r2.1, (r2.2.1, r2.2.2.1)), r2.2.2.2.1, (12 : Int))) fun r5 =>
  Option.bind (sh_session_Check ((r5.1, (r5.2.1, r5.2.2.1)), r2.2.2.2.1, (12 : Int))) fun r6 =>
  Option.bind (sh_session_RevokeModel ((r2.1, (r2.2.1, r2.2.2.1)), (3 : Int))) fun r7 =>
  Option.bind (sh_session_Check ((r7.1, (r7.2.1, r7.2.2)), r2.2.2.2.1, (12 : Int))) fun r8 =>
  if (bEq r2.2.2.2.2 (0 : Int)) then
    if (bEq r3.2.2.2.2.2.2 (0 : Int)) then
      if (bEq (r2.2.2.2.1.length : Int) (16 : Int)) then
        if (sEq r3.2.1 ([97, 108, 105, 99, 101] : List UInt8)) then
          if (bEq r3.2.2.2.2.2.1 (15 : Int)) then
            if (bEq r4.2.2.2.2.2.2 (11 : Int)) then
              if (bEq r5.2.2.2 (0 : Int)) then
                if (bEq r6.2.2.2.2.2.2 (11 : Int)) then
                  bnd (bEq r8.2.2.2.2.2.2 (11 : Int)) fun b9 =>
                  some b9
                else
                  some false
              else
                some false
            else
              some false
          else
            some false
        else
          some false
      else
        some false
    else
      some false
  else
    some false

def sh_session_RevokeCredential_1 (x : (Int × (List UInt8) × (List Int) × Int × Int × Int) × (List Int)) : Option Bool :=
  bnd (sEq (ofBytes x.1.2.2.1) (ofBytes x.2)) fun b0 =>
  some b0

def sh_session_without_4 (x : (Int × Int × List (Int × (List UInt8) × (List Int) × Int × Int × Int)) × (List Int)) : Option (Int × Int × (List (Int × (List UInt8) × (List Int) × Int × Int × Int))) :=
  jn (α := (Int × Int × Int × Int × (List (Int × (List UInt8) × (List Int) × Int × Int × Int)))) (ρ := (Int × Int × (List (Int × (List UInt8) × (List Int) × Int × Int × Int)))) (loopLim (σ := (Int × Int × Int × Int × (List (Int × (List UInt8) × (List Int) × Int × Int × Int)) × (List Int) × (List (Int × (List UInt8) × (List Int) × Int × Int × Int)) × Int × Int)) (α := (Int × Int × Int × Int × (List (Int × (List UInt8) × (List Int) × Int × Int × Int))) ⊕ (Int × Int × (List (Int × (List UInt8) × (List Int) × Int × Int × Int)))) (fun s0 =>
    if (bLt s0.2.2.2.2.2.2.2.2 s0.2.2.2.2.2.2.2.1) then
      atL s0.2.2.2.2.2.2.1 s0.2.2.2.2.2.2.2.2 fun y2 =>
      Option.bind (sh_session_RevokeCredential_1 ((y2.1, (y2.2.1, (y2.2.2.1, (y2.2.2.2.1, (y2.2.2.2.2.1, y2.2.2.2.2.2))))), s0.2.2.2.2.2.1)) fun r3 =>
      if (!r3) then
        bnd ((List.replicate 1 ((0 : Int), (([] : List UInt8), (([] : List Int), ((0 : Int), ((0 : Int), (0 : Int))))))).set 0 (y2.1, (y2.2.1, (y2.2.2.1, (y2.2.2.2.1, (y2.2.2.2.2.1, y2.2.2.2.2.2)))))) fun b4 =>
        reqP ((s0.2.2.2.2.1.length + b4.length) * 72 ≤ 140737488355328) <|
        bnd (s0.2.2.2.2.1 ++ b4) fun b5 =>
        bnd (iAdd .i64 s0.2.2.2.2.2.2.2.2 (1 : Int)) fun b6 =>
        some (.inl (s0.1, s0.2.1, s0.2.2.1, s0.2.2.2.1, b5, s0.2.2.2.2.2.1, s0.2.2.2.2.2.2.1, s0.2.2.2.2.2.2.2.1, b6))
      else
        bnd (iAdd .i64 s0.2.2.2.2.2.2.2.2 (1 : Int)) fun b7 =>
        some (.inl (s0.1, s0.2.1, s0.2.2.1, s0.2.2.2.1, s0.2.2.2.2.1, s0.2.2.2.2.2.1, s0.2.2.2.2.2.2.1, s0.2.2.2.2.2.2.2.1, b7))
    else
      some (.inr (.inl (s0.1, s0.2.1, s0.2.2.1, s0.2.2.2.1, s0.2.2.2.2.1)))
  ) ((0 : Int), (0 : Int), x.1.1, x.1.2.1, ([] : List (Int × (List UInt8) × (List Int) × Int × Int × Int)), x.2, x.1.2.2, (x.1.2.2.length : Int), (0 : Int))) fun j1 =>
  some (j1.2.2.1, j1.2.2.2.1, j1.2.2.2.2)

def sh_session_RevokeCredential (x : (Int × Int × List (Int × (List UInt8) × (List Int) × Int × Int × Int)) × (List Int)) : Option (Int × Int × (List (Int × (List UInt8) × (List Int) × Int × Int × Int))) :=
  Option.bind (sh_session_without_4 ((x.1.1, (x.1.2.1, x.1.2.2)), x.2)) fun r0 =>
  some (r0.1, r0.2.1, r0.2.2)

def sh_passkeylaw34_SessionGone (x : Int × (List Int) × Int × Int) : Option Bool :=
  Option.bind (sh_session_New x.1) fun r0 =>
  jn (α := (Int × Int × (List (Int × (List UInt8) × (List Int) × Int × Int × Int)) × (List (List Int)) × (List Int) × Int × Int)) (ρ := Bool) (loopLim (σ := (Int × Int × (List (Int × (List UInt8) × (List Int) × Int × Int × Int)) × (List (List Int)) × (List Int) × Int × Int × Int)) (α := (Int × Int × (List (Int × (List UInt8) × (List Int) × Int × Int × Int)) × (List (List Int)) × (List Int) × Int × Int) ⊕ Bool) (fun s1 =>
    jn (α := (Int × Int × (List (Int × (List UInt8) × (List Int) × Int × Int × Int)) × (List (List Int)) × (List Int) × Int × Int × Int × Int × Bool)) (ρ := ((Int × Int × (List (Int × (List UInt8) × (List Int) × Int × Int × Int)) × (List (List Int)) × (List Int) × Int × Int × Int) ⊕ ((Int × Int × (List (Int × (List UInt8) × (List Int) × Int × Int × Int)) × (List (List Int)) × (List Int) × Int × Int) ⊕ Bool))) (
      if (bLt s1.2.2.2.2.2.2.2 (s1.2.2.2.2.1.length : Int)) then
        if (bLt s1.2.2.2.2.2.2.2 (20 : Int)) then
          some (.inl (s1.1, s1.2.1, s1.2.2.1, s1.2.2.2.1, s1.2.2.2.2.1, s1.2.2.2.2.2.1, s1.2.2.2.2.2.2.1, s1.2.2.2.2.2.2.2, s1.2.2.2.2.2.2.2, (bLt s1.2.2.2.2.2.2.2 (20 : Int))))
        else
          some (.inr (.inr (.inl (s1.1, s1.2.1, s1.2.2.1, s1.2.2.2.1, s1.2.2.2.2.1, s1.2.2.2.2.2.1, s1.2.2.2.2.2.2.1))))
      else
        some (.inr (.inr (.inl (s1.1, s1.2.1, s1.2.2.1, s1.2.2.2.1, s1.2.2.2.2.1, s1.2.2.2.2.2.1, s1.2.2.2.2.2.2.1))))
    ) fun j3 =>
    atL j3.2.2.2.2.1 j3.2.2.2.2.2.2.2.1 fun y4 =>
    bnd ((List.replicate 1 (0 : Int)).set 0 (iRem .u8 y4 (4 : Int))) fun b5 =>
    atL j3.2.2.2.2.1 j3.2.2.2.2.2.2.2.1 fun y6 =>
    Option.bind (sh_session_Open ((j3.1, (j3.2.1, j3.2.2.1)), ([97] : List UInt8), b5, (iAdd .u64 (iConv .u64 (iRem .u8 y6 (3 : Int))) (1 : Int)), (0 : Int), (100 : Int))) fun r7 =>
    if (bNe r7.2.2.2.2 (0 : Int)) then
      some (.inr (.inr false))
    else
      jn (α := (Int × Int × (List (List Int)) × Int × Int × (List (Int × (List UInt8) × (List Int) × Int × Int × Int)) × (List Int) × (List Int) × Int × Int × Int × Int × Bool)) (ρ := ((Int × Int × (List (Int × (List UInt8) × (List Int) × Int × Int × Int)) × (List (List Int)) × (List Int) × Int × Int × Int) ⊕ ((Int × Int × (List (Int × (List UInt8) × (List Int) × Int × Int × Int)) × (List (List Int)) × (List Int) × Int × Int) ⊕ Bool))) (loopLim (σ := (Int × Int × (List (List Int)) × Int × Int × (List (Int × (List UInt8) × (List Int) × Int × Int × Int)) × (List Int) × (List Int) × Int × Int × Int × Int × Int × Bool)) (α := (Int × Int × (List (List Int)) × Int × Int × (List (Int × (List UInt8) × (List Int) × Int × Int × Int)) × (List Int) × (List Int) × Int × Int × Int × Int × Bool) ⊕ ((Int × Int × (List (Int × (List UInt8) × (List Int) × Int × Int × Int)) × (List (List Int)) × (List Int) × Int × Int × Int) ⊕ ((Int × Int × (List (Int × (List UInt8) × (List Int) × Int × Int × Int)) × (List (List Int)) × (List Int) × Int × Int) ⊕ Bool))) (fun s8 =>
        if (bLt s8.2.2.2.2.2.2.2.2.2.2.2.1 (s8.2.2.1.length : Int)) then
          reqP (0 ≤ s8.2.2.2.2.2.2.2.2.2.2.2.1 ∧ s8.2.2.2.2.2.2.2.2.2.2.2.1 < (s8.2.2.1.length : Int)) <|
          if (sEq (ofBytes (s8.2.2.1.getD s8.2.2.2.2.2.2.2.2.2.2.2.1.toNat ([] : List Int))) (ofBytes s8.2.2.2.2.2.2.1)) then
            some (.inr (.inr (.inr (.inr false))))
          else
            bnd (iAdd .i64 s8.2.2.2.2.2.2.2.2.2.2.2.1 (1 : Int)) fun b10 =>
            some (.inl (s8.1, s8.2.1, s8.2.2.1, s8.2.2.2.1, s8.2.2.2.2.1, s8.2.2.2.2.2.1, s8.2.2.2.2.2.2.1, s8.2.2.2.2.2.2.2.1, s8.2.2.2.2.2.2.2.2.1, s8.2.2.2.2.2.2.2.2.2.1, s8.2.2.2.2.2.2.2.2.2.2.1, b10, s8.2.2.2.2.2.2.2.2.2.2.2.2.1, s8.2.2.2.2.2.2.2.2.2.2.2.2.2))
        else
          some (.inr (.inl (s8.1, s8.2.1, s8.2.2.1, s8.2.2.2.1, s8.2.2.2.2.1, s8.2.2.2.2.2.1, s8.2.2.2.2.2.2.1, s8.2.2.2.2.2.2.2.1, s8.2.2.2.2.2.2.2.2.1, s8.2.2.2.2.2.2.2.2.2.1, s8.2.2.2.2.2.2.2.2.2.2.1, s8.2.2.2.2.2.2.2.2.2.2.2.2.1, s8.2.2.2.2.2.2.2.2.2.2.2.2.2)))
      ) (j3.1, j3.2.1, j3.2.2.2.1, r7.1, r7.2.1, r7.2.2.1, r7.2.2.2.1, j3.2.2.2.2.1, j3.2.2.2.2.2.1, j3.2.2.2.2.2.2.1, j3.2.2.2.2.2.2.2.1, (0 : Int), j3.2.2.2.2.2.2.2.2.1, j3.2.2.2.2.2.2.2.2.2)) fun j9 =>
      bnd ((List.replicate 1 ([] : List Int)).set 0 j9.2.2.2.2.2.2.1) fun b11 =>
      reqP ((j9.2.2.1.length + b11.length) * 24 ≤ 140737488355328) <|
      bnd (j9.2.2.1 ++ b11) fun b12 =>
      bnd (iAdd .i64 j9.2.2.2.2.2.2.2.2.2.2.1 (1 : Int)) fun b13 =>
      some (.inl (j9.2.2.2.1, j9.2.2.2.2.1, j9.2.2.2.2.2.1, b12, j9.2.2.2.2.2.2.2.1, j9.2.2.2.2.2.2.2.2.1, j9.2.2.2.2.2.2.2.2.2.1, b13))
  ) (r0.1, r0.2.1, r0.2.2, ([] : List (List Int)), x.2.1, x.2.2.1, x.2.2.2, (0 : Int))) fun j2 =>
  reqP (0 ≤ (j2.2.2.2.1.length : Int) ∧ (j2.2.2.2.1.length : Int) ≤ (j2.2.2.2.1.length : Int) ∧ 1 * (j2.2.2.2.1.length : Int) ≤ 140737488355328 ∧ (j2.2.2.2.1.length : Int) ≤ 9223372036854775807) <|
  bnd (mkL (j2.2.2.2.1.length : Int) false) fun b14 =>
  bnd (iConv .i64 (iShr .u8 j2.2.2.2.2.2.1 (2 : Int))) fun b15 =>
  jn (α := (Int × Int × (List (Int × (List UInt8) × (List Int) × Int × Int × Int)) × (List (List Int)) × (List Bool) × (List Int) × Int × Int × Int)) (ρ := Bool) (
    bnd (bEq (iAnd .u8 j2.2.2.2.2.2.1 (3 : Int)) (0 : Int)) fun b17 =>
    if b17 then
      Option.bind (sh_session_RevokeModel ((j2.1, (j2.2.1, j2.2.2.1)), (iAdd .u64 (iConv .u64 (iRem .i64 b15 (3 : Int))) (1 : Int)))) fun r18 =>
      some (.inl (r18.1, r18.2.1, r18.2.2, j2.2.2.2.1, b14, j2.2.2.2.2.1, j2.2.2.2.2.2.1, j2.2.2.2.2.2.2, b15))
    else
      bnd (bEq (iAnd .u8 j2.2.2.2.2.2.1 (3 : Int)) (1 : Int)) fun b19 =>
      if b19 then
        bnd ((List.replicate 1 (0 : Int)).set 0 (iConv .u8 (iRem .i64 b15 (4 : Int)))) fun b20 =>
        Option.bind (sh_session_RevokeCredential ((j2.1, (j2.2.1, j2.2.2.1)), b20)) fun r21 =>
        some (.inl (r21.1, r21.2.1, r21.2.2, j2.2.2.2.1, b14, j2.2.2.2.2.1, j2.2.2.2.2.2.1, j2.2.2.2.2.2.2, b15))
      else
        bnd (bEq (iAnd .u8 j2.2.2.2.2.2.1 (3 : Int)) (2 : Int)) fun b22 =>
        if b22 then
          if (bGt (j2.2.2.2.1.length : Int) (0 : Int)) then
            reqP ((j2.2.2.2.1.length : Int) ≠ 0) <|
            reqP (0 ≤ (iRem .i64 b15 (j2.2.2.2.1.length : Int)) ∧ (iRem .i64 b15 (j2.2.2.2.1.length : Int)) < (j2.2.2.2.1.length : Int)) <|
            Option.bind (sh_session_Close ((j2.1, (j2.2.1, j2.2.2.1)), (j2.2.2.2.1.getD (iRem .i64 b15 (j2.2.2.2.1.length : Int)).toNat ([] : List Int)), (50 : Int))) fun r23 =>
            some (.inl (r23.1, r23.2.1, r23.2.2.1, j2.2.2.2.1, b14, j2.2.2.2.2.1, j2.2.2.2.2.2.1, j2.2.2.2.2.2.2, b15))
          else
            some (.inl (j2.1, j2.2.1, j2.2.2.1, j2.2.2.2.1, b14, j2.2.2.2.2.1, j2.2.2.2.2.2.1, j2.2.2.2.2.2.2, b15))
        else
          some (.inl (j2.1, j2.2.1, j2.2.2.1, j2.2.2.2.1, b14, j2.2.2.2.2.1, j2.2.2.2.2.2.1, j2.2.2.2.2.2.2, b15))
  ) fun j16 =>
  jn (α := (Int × Int × (List (Int × (List UInt8) × (List Int) × Int × Int × Int)) × (List (List Int)) × (List Bool) × Int)) (ρ := Bool) (loopLim (σ := (Int × Int × (List (Int × (List UInt8) × (List Int) × Int × Int × Int)) × (List (List Int)) × (List Bool) × (List Int) × Int × Int × Int × Int)) (α := (Int × Int × (List (Int × (List UInt8) × (List Int) × Int × Int × Int)) × (List (List Int)) × (List Bool) × Int) ⊕ Bool) (fun s24 =>
    if (bLt s24.2.2.2.2.2.2.2.2.2 (s24.2.2.2.1.length : Int)) then
      jn (α := (Int × Int × (List (Int × (List UInt8) × (List Int) × Int × Int × Int)) × (List (List Int)) × (List Bool) × (List Int) × Int × Int × Int × Int)) (ρ := ((Int × Int × (List (Int × (List UInt8) × (List Int) × Int × Int × Int)) × (List (List Int)) × (List Bool) × (List Int) × Int × Int × Int × Int) ⊕ ((Int × Int × (List (Int × (List UInt8) × (List Int) × Int × Int × Int)) × (List (List Int)) × (List Bool) × Int) ⊕ Bool))) (
        if (bEq (iAnd .u8 s24.2.2.2.2.2.2.1 (3 : Int)) (0 : Int)) then
          atL s24.2.2.2.2.2.1 s24.2.2.2.2.2.2.2.2.2 fun y27 =>
          if (bEq (iConv .i64 (iRem .u8 y27 (3 : Int))) (iRem .i64 s24.2.2.2.2.2.2.2.2.1 (3 : Int))) then
            reqP (0 ≤ s24.2.2.2.2.2.2.2.2.2 ∧ s24.2.2.2.2.2.2.2.2.2 < (s24.2.2.2.2.1.length : Int)) <|
            bnd (s24.2.2.2.2.1.set s24.2.2.2.2.2.2.2.2.2.toNat true) fun b28 =>
            some (.inl (s24.1, s24.2.1, s24.2.2.1, s24.2.2.2.1, b28, s24.2.2.2.2.2.1, s24.2.2.2.2.2.2.1, s24.2.2.2.2.2.2.2.1, s24.2.2.2.2.2.2.2.2.1, s24.2.2.2.2.2.2.2.2.2))
          else
            if (bEq (iAnd .u8 s24.2.2.2.2.2.2.1 (3 : Int)) (1 : Int)) then
              atL s24.2.2.2.2.2.1 s24.2.2.2.2.2.2.2.2.2 fun y29 =>
              if (bEq (iConv .i64 (iRem .u8 y29 (4 : Int))) (iRem .i64 s24.2.2.2.2.2.2.2.2.1 (4 : Int))) then
                reqP (0 ≤ s24.2.2.2.2.2.2.2.2.2 ∧ s24.2.2.2.2.2.2.2.2.2 < (s24.2.2.2.2.1.length : Int)) <|
                bnd (s24.2.2.2.2.1.set s24.2.2.2.2.2.2.2.2.2.toNat true) fun b30 =>
                some (.inl (s24.1, s24.2.1, s24.2.2.1, s24.2.2.2.1, b30, s24.2.2.2.2.2.1, s24.2.2.2.2.2.2.1, s24.2.2.2.2.2.2.2.1, s24.2.2.2.2.2.2.2.2.1, s24.2.2.2.2.2.2.2.2.2))
              else
                if (bEq (iAnd .u8 s24.2.2.2.2.2.2.1 (3 : Int)) (2 : Int)) then
                  reqP ((s24.2.2.2.1.length : Int) ≠ 0) <|
                  reqP (0 ≤ s24.2.2.2.2.2.2.2.2.2 ∧ s24.2.2.2.2.2.2.2.2.2 < (s24.2.2.2.2.1.length : Int)) <|
                  bnd (s24.2.2.2.2.1.set s24.2.2.2.2.2.2.2.2.2.toNat (bEq s24.2.2.2.2.2.2.2.2.2 (iRem .i64 s24.2.2.2.2.2.2.2.2.1 (s24.2.2.2.1.length : Int)))) fun b31 =>
                  some (.inl (s24.1, s24.2.1, s24.2.2.1, s24.2.2.2.1, b31, s24.2.2.2.2.2.1, s24.2.2.2.2.2.2.1, s24.2.2.2.2.2.2.2.1, s24.2.2.2.2.2.2.2.2.1, s24.2.2.2.2.2.2.2.2.2))
                else
                  reqP (0 ≤ s24.2.2.2.2.2.2.2.2.2 ∧ s24.2.2.2.2.2.2.2.2.2 < (s24.2.2.2.2.1.length : Int)) <|
                  bnd (s24.2.2.2.2.1.set s24.2.2.2.2.2.2.2.2.2.toNat false) fun b32 =>
                  some (.inl (s24.1, s24.2.1, s24.2.2.1, s24.2.2.2.1, b32, s24.2.2.2.2.2.1, s24.2.2.2.2.2.2.1, s24.2.2.2.2.2.2.2.1, s24.2.2.2.2.2.2.2.2.1, s24.2.2.2.2.2.2.2.2.2))
            else
              if (bEq (iAnd .u8 s24.2.2.2.2.2.2.1 (3 : Int)) (2 : Int)) then
                reqP ((s24.2.2.2.1.length : Int) ≠ 0) <|
                reqP (0 ≤ s24.2.2.2.2.2.2.2.2.2 ∧ s24.2.2.2.2.2.2.2.2.2 < (s24.2.2.2.2.1.length : Int)) <|
                bnd (s24.2.2.2.2.1.set s24.2.2.2.2.2.2.2.2.2.toNat (bEq s24.2.2.2.2.2.2.2.2.2 (iRem .i64 s24.2.2.2.2.2.2.2.2.1 (s24.2.2.2.1.length : Int)))) fun b33 =>
                some (.inl (s24.1, s24.2.1, s24.2.2.1, s24.2.2.2.1, b33, s24.2.2.2.2.2.1, s24.2.2.2.2.2.2.1, s24.2.2.2.2.2.2.2.1, s24.2.2.2.2.2.2.2.2.1, s24.2.2.2.2.2.2.2.2.2))
              else
                reqP (0 ≤ s24.2.2.2.2.2.2.2.2.2 ∧ s24.2.2.2.2.2.2.2.2.2 < (s24.2.2.2.2.1.length : Int)) <|
                bnd (s24.2.2.2.2.1.set s24.2.2.2.2.2.2.2.2.2.toNat false) fun b34 =>
                some (.inl (s24.1, s24.2.1, s24.2.2.1, s24.2.2.2.1, b34, s24.2.2.2.2.2.1, s24.2.2.2.2.2.2.1, s24.2.2.2.2.2.2.2.1, s24.2.2.2.2.2.2.2.2.1, s24.2.2.2.2.2.2.2.2.2))
        else
          if (bEq (iAnd .u8 s24.2.2.2.2.2.2.1 (3 : Int)) (1 : Int)) then
            atL s24.2.2.2.2.2.1 s24.2.2.2.2.2.2.2.2.2 fun y35 =>
            if (bEq (iConv .i64 (iRem .u8 y35 (4 : Int))) (iRem .i64 s24.2.2.2.2.2.2.2.2.1 (4 : Int))) then
              reqP (0 ≤ s24.2.2.2.2.2.2.2.2.2 ∧ s24.2.2.2.2.2.2.2.2.2 < (s24.2.2.2.2.1.length : Int)) <|
              bnd (s24.2.2.2.2.1.set s24.2.2.2.2.2.2.2.2.2.toNat true) fun b36 =>
              some (.inl (s24.1, s24.2.1, s24.2.2.1, s24.2.2.2.1, b36, s24.2.2.2.2.2.1, s24.2.2.2.2.2.2.1, s24.2.2.2.2.2.2.2.1, s24.2.2.2.2.2.2.2.2.1, s24.2.2.2.2.2.2.2.2.2))
            else
              if (bEq (iAnd .u8 s24.2.2.2.2.2.2.1 (3 : Int)) (2 : Int)) then
                reqP ((s24.2.2.2.1.length : Int) ≠ 0) <|
                reqP (0 ≤ s24.2.2.2.2.2.2.2.2.2 ∧ s24.2.2.2.2.2.2.2.2.2 < (s24.2.2.2.2.1.length : Int)) <|
                bnd (s24.2.2.2.2.1.set s24.2.2.2.2.2.2.2.2.2.toNat (bEq s24.2.2.2.2.2.2.2.2.2 (iRem .i64 s24.2.2.2.2.2.2.2.2.1 (s24.2.2.2.1.length : Int)))) fun b37 =>
                some (.inl (s24.1, s24.2.1, s24.2.2.1, s24.2.2.2.1, b37, s24.2.2.2.2.2.1, s24.2.2.2.2.2.2.1, s24.2.2.2.2.2.2.2.1, s24.2.2.2.2.2.2.2.2.1, s24.2.2.2.2.2.2.2.2.2))
              else
                reqP (0 ≤ s24.2.2.2.2.2.2.2.2.2 ∧ s24.2.2.2.2.2.2.2.2.2 < (s24.2.2.2.2.1.length : Int)) <|
                bnd (s24.2.2.2.2.1.set s24.2.2.2.2.2.2.2.2.2.toNat false) fun b38 =>
                some (.inl (s24.1, s24.2.1, s24.2.2.1, s24.2.2.2.1, b38, s24.2.2.2.2.2.1, s24.2.2.2.2.2.2.1, s24.2.2.2.2.2.2.2.1, s24.2.2.2.2.2.2.2.2.1, s24.2.2.2.2.2.2.2.2.2))
          else
            if (bEq (iAnd .u8 s24.2.2.2.2.2.2.1 (3 : Int)) (2 : Int)) then
              reqP ((s24.2.2.2.1.length : Int) ≠ 0) <|
              reqP (0 ≤ s24.2.2.2.2.2.2.2.2.2 ∧ s24.2.2.2.2.2.2.2.2.2 < (s24.2.2.2.2.1.length : Int)) <|
              bnd (s24.2.2.2.2.1.set s24.2.2.2.2.2.2.2.2.2.toNat (bEq s24.2.2.2.2.2.2.2.2.2 (iRem .i64 s24.2.2.2.2.2.2.2.2.1 (s24.2.2.2.1.length : Int)))) fun b39 =>
              some (.inl (s24.1, s24.2.1, s24.2.2.1, s24.2.2.2.1, b39, s24.2.2.2.2.2.1, s24.2.2.2.2.2.2.1, s24.2.2.2.2.2.2.2.1, s24.2.2.2.2.2.2.2.2.1, s24.2.2.2.2.2.2.2.2.2))
            else
              reqP (0 ≤ s24.2.2.2.2.2.2.2.2.2 ∧ s24.2.2.2.2.2.2.2.2.2 < (s24.2.2.2.2.1.length : Int)) <|
              bnd (s24.2.2.2.2.1.set s24.2.2.2.2.2.2.2.2.2.toNat false) fun b40 =>
              some (.inl (s24.1, s24.2.1, s24.2.2.1, s24.2.2.2.1, b40, s24.2.2.2.2.2.1, s24.2.2.2.2.2.2.1, s24.2.2.2.2.2.2.2.1, s24.2.2.2.2.2.2.2.2.1, s24.2.2.2.2.2.2.2.2.2))
      ) fun j26 =>
      bnd (iAdd .i64 j26.2.2.2.2.2.2.2.2.2 (1 : Int)) fun b41 =>
      some (.inl (j26.1, j26.2.1, j26.2.2.1, j26.2.2.2.1, j26.2.2.2.2.1, j26.2.2.2.2.2.1, j26.2.2.2.2.2.2.1, j26.2.2.2.2.2.2.2.1, j26.2.2.2.2.2.2.2.2.1, b41))
    else
      some (.inr (.inl (s24.1, s24.2.1, s24.2.2.1, s24.2.2.2.1, s24.2.2.2.2.1, s24.2.2.2.2.2.2.2.1)))
  ) (j16.1, j16.2.1, j16.2.2.1, j16.2.2.2.1, j16.2.2.2.2.1, j16.2.2.2.2.2.1, j16.2.2.2.2.2.2.1, j16.2.2.2.2.2.2.2.1, j16.2.2.2.2.2.2.2.2, (0 : Int))) fun j25 =>
  jn (α := (Int × Int × (List (Int × (List UInt8) × (List Int) × Int × Int × Int)) × (List (List Int)) × (List Bool))) (ρ := Bool) (loopLim (σ := (Int × Int × (List (Int × (List UInt8) × (List Int) × Int × Int × Int)) × (List (List Int)) × (List Bool) × Int × Int)) (α := (Int × Int × (List (Int × (List UInt8) × (List Int) × Int × Int × Int)) × (List (List Int)) × (List Bool)) ⊕ Bool) (fun s42 =>
    if (bLt s42.2.2.2.2.2.2 (iConv .i64 (iRem .u8 s42.2.2.2.2.2.1 (8 : Int)))) then
      bnd ((List.replicate 1 (0 : Int)).set 0 (iConv .u8 s42.2.2.2.2.2.2)) fun b44 =>
      Option.bind (sh_session_Open ((s42.1, (s42.2.1, s42.2.2.1)), ([97] : List UInt8), b44, (2 : Int), (60 : Int), (10 : Int))) fun r45 =>
      if (bNe r45.2.2.2.2 (0 : Int)) then
        some (.inr (.inr false))
      else
        bnd (iAdd .i64 s42.2.2.2.2.2.2 (1 : Int)) fun b46 =>
        some (.inl (r45.1, r45.2.1, r45.2.2.1, s42.2.2.2.1, s42.2.2.2.2.1, s42.2.2.2.2.2.1, b46))
    else
      some (.inr (.inl (s42.1, s42.2.1, s42.2.2.1, s42.2.2.2.1, s42.2.2.2.2.1)))
  ) (j25.1, j25.2.1, j25.2.2.1, j25.2.2.2.1, j25.2.2.2.2.1, j25.2.2.2.2.2, (0 : Int))) fun j43 =>
  jn (α := (Unit)) (ρ := Bool) (loopLim (σ := (Int × Int × (List (Int × (List UInt8) × (List Int) × Int × Int × Int)) × (List (List Int)) × (List Bool) × Int)) (α := (Unit) ⊕ Bool) (fun s47 =>
    if (bLt s47.2.2.2.2.2 (s47.2.2.2.1.length : Int)) then
      reqP (0 ≤ s47.2.2.2.2.2 ∧ s47.2.2.2.2.2 < (s47.2.2.2.1.length : Int)) <|
      Option.bind (sh_session_Check ((s47.1, (s47.2.1, s47.2.2.1)), (s47.2.2.2.1.getD s47.2.2.2.2.2.toNat ([] : List Int)), (65 : Int))) fun r49 =>
      reqP (0 ≤ s47.2.2.2.2.2 ∧ s47.2.2.2.2.2 < (s47.2.2.2.2.1.length : Int)) <|
      if (bIff (bEq r49.2.2.2.2.2.2 (0 : Int)) (s47.2.2.2.2.1.getD s47.2.2.2.2.2.toNat false)) then
        some (.inr (.inr false))
      else
        bnd (iAdd .i64 s47.2.2.2.2.2 (1 : Int)) fun b50 =>
        some (.inl (s47.1, s47.2.1, s47.2.2.1, s47.2.2.2.1, s47.2.2.2.2.1, b50))
    else
      some (.inr (.inl ()))
  ) (j43.1, j43.2.1, j43.2.2.1, j43.2.2.2.1, j43.2.2.2.2, (0 : Int))) fun j48 =>
  Option.bind (sh_passkeylaw34_awake ()) fun r51 =>
  some r51
end
end Go.Vm
