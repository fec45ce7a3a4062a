/- What the functions compute. PRINTED by a program of this session's. -/
import Derived.Test.YtjfiohdaeahdmaaV5
set_option linter.unusedVariables false
namespace Go.Vm
noncomputable section
def sh_slices_Clone___passkey_api_Gesture_passkey_api_Gesture_ (x : (List (Int × Int))) : Option ((List (Int × Int))) :=
  reqP (x.length * 16 ≤ 140737488355328) <|
  some x

def sh_consent_decide (x : (Int × Int) × Bool × Bool) : Option (Bool × Bool × Int × Int × Bool) :=
  jn (α := (Int × Int × Int × Bool)) (ρ := (Bool × Bool × Int × Int × Bool)) (
    jn (α := (Int × Int × Int × Bool × Bool)) (ρ := ((Int × Int × Int × Bool) ⊕ (Bool × Bool × Int × Int × Bool))) (
      bnd (bEq x.1.2 (4 : Int)) fun b2 =>
      if b2 then
        some (.inr (.inr (false, false, (0 : Int), (20 : Int), true)))
      else
        bnd (bEq x.1.2 (5 : Int)) fun b3 =>
        if b3 then
          some (.inr (.inr (false, false, (0 : Int), (21 : Int), true)))
        else
          bnd (bEq x.1.2 (3 : Int)) fun b4 =>
          if b4 then
            if x.2.2 then
              some (.inr (.inr (false, false, (0 : Int), (20 : Int), true)))
            else
              some (.inl (x.1.1, x.1.2, (0 : Int), false, x.2.2))
          else
            bnd (bEq x.1.2 (2 : Int)) fun b5 =>
            if b5 then
              some (.inl (x.1.1, x.1.2, (0 : Int), x.2.1, x.2.2))
            else
              bnd (bEq x.1.2 (1 : Int)) fun b6 =>
              if b6 then
                some (.inr (.inl ((0 : Int), x.1.1, x.1.2, x.2.2)))
              else
                some (.inr (.inr (false, false, (0 : Int), (0 : Int), false)))
    ) fun j1 =>
    if j1.2.2.2.1 then
      some (.inr (true, true, j1.1, (0 : Int), true))
    else
      some (.inl (j1.2.2.1, j1.1, j1.2.1, j1.2.2.2.2))
  ) fun j0 =>
  some (true, false, j0.2.1, (0 : Int), (!j0.2.2.2))

def sh_cmp_isNaN_int_ (x : Int) : Option Bool :=
  bnd (bNe x x) fun b0 =>
  some b0

def sh_cmp_Compare_int_ (x : Int × Int) : Option Int :=
  Option.bind (sh_cmp_isNaN_int_ x.1) fun r0 =>
  Option.bind (sh_cmp_isNaN_int_ x.2) fun r1 =>
  if r0 then
    if r1 then
      some (0 : Int)
    else
      some (-1 : Int)
  else
    if r1 then
      some (1 : Int)
    else
      if (bLt x.1 x.2) then
        some (-1 : Int)
      else
        if (bGt x.1 x.2) then
          some (1 : Int)
        else
          some (0 : Int)

def sh_consent_Await_1 (x : (Int × Int) × (Int × Int)) : Option Int :=
  Option.bind (sh_cmp_Compare_int_ (x.1.1, x.2.1)) fun r0 =>
  some r0

def sh_slices_insertionSortCmpFunc_passkey_api_Gesture_ (x : (List (Int × Int)) × Int × Int) : Option (List (Int × Int)) :=
  bnd (iAdd .i64 x.2.1 (1 : Int)) fun b0 =>
  jn (α := (List (Int × Int))) (ρ := (List (Int × Int))) (loopLim (σ := ((List (Int × Int)) × Int × Int × Int)) (α := (List (Int × Int)) ⊕ (List (Int × Int))) (fun s1 =>
    if (bLt s1.2.2.2 s1.2.2.1) then
      jn (α := ((List (Int × Int)) × Int × Int × Int)) (ρ := (((List (Int × Int)) × Int × Int × Int) ⊕ ((List (Int × Int)) ⊕ (List (Int × Int))))) (loopLim (σ := ((List (Int × Int)) × Int × Int × Int × Int)) (α := ((List (Int × Int)) × Int × Int × Int) ⊕ (((List (Int × Int)) × Int × Int × Int) ⊕ ((List (Int × Int)) ⊕ (List (Int × Int))))) (fun s3 =>
        jn (α := ((List (Int × Int)) × Int × Int × Int × Int × Int × Nat × Int × Int × Int × Int × Nat × Int × Int × Int × Bool)) (ρ := (((List (Int × Int)) × Int × Int × Int × Int) ⊕ (((List (Int × Int)) × Int × Int × Int) ⊕ (((List (Int × Int)) × Int × Int × Int) ⊕ ((List (Int × Int)) ⊕ (List (Int × Int))))))) (
          if (bGt s3.2.2.2.2 s3.2.1) then
            reqP (0 ≤ s3.2.2.2.2 ∧ s3.2.2.2.2 < (s3.1.length : Int)) <|
            reqP (0 ≤ (iSub .i64 s3.2.2.2.2 (1 : Int)) ∧ (iSub .i64 s3.2.2.2.2 (1 : Int)) < (s3.1.length : Int)) <|
            Option.bind (sh_consent_Await_1 (((s3.1.getD s3.2.2.2.2.toNat ((0 : Int), (0 : Int))).1, (s3.1.getD s3.2.2.2.2.toNat ((0 : Int), (0 : Int))).2), ((s3.1.getD (iSub .i64 s3.2.2.2.2 (1 : Int)).toNat ((0 : Int), (0 : Int))).1, (s3.1.getD (iSub .i64 s3.2.2.2.2 (1 : Int)).toNat ((0 : Int), (0 : Int))).2))) fun r6 =>
            if (bLt r6 (0 : Int)) then
              some (.inl (s3.1, s3.2.1, s3.2.2.1, s3.2.2.2.1, s3.2.2.2.2, s3.2.2.2.2, s3.2.2.2.2.toNat, (s3.1.getD s3.2.2.2.2.toNat ((0 : Int), (0 : Int))).1, (s3.1.getD s3.2.2.2.2.toNat ((0 : Int), (0 : Int))).2, s3.2.2.2.2, (iSub .i64 s3.2.2.2.2 (1 : Int)), (iSub .i64 s3.2.2.2.2 (1 : Int)).toNat, (s3.1.getD (iSub .i64 s3.2.2.2.2 (1 : Int)).toNat ((0 : Int), (0 : Int))).1, (s3.1.getD (iSub .i64 s3.2.2.2.2 (1 : Int)).toNat ((0 : Int), (0 : Int))).2, r6, (bLt r6 (0 : Int))))
            else
              some (.inr (.inr (.inl (s3.1, s3.2.1, s3.2.2.1, s3.2.2.2.1))))
          else
            some (.inr (.inr (.inl (s3.1, s3.2.1, s3.2.2.1, s3.2.2.2.1))))
        ) fun j5 =>
        reqP (0 ≤ (iSub .i64 j5.2.2.2.2.1 (1 : Int)) ∧ (iSub .i64 j5.2.2.2.2.1 (1 : Int)) < (j5.1.length : Int)) <|
        reqP (0 ≤ j5.2.2.2.2.1 ∧ j5.2.2.2.2.1 < (j5.1.length : Int)) <|
        reqP (0 ≤ j5.2.2.2.2.1 ∧ j5.2.2.2.2.1 < (j5.1.length : Int)) <|
        bnd (j5.1.set j5.2.2.2.2.1.toNat ((j5.1.getD (iSub .i64 j5.2.2.2.2.1 (1 : Int)).toNat ((0 : Int), (0 : Int))).1, (j5.1.getD (iSub .i64 j5.2.2.2.2.1 (1 : Int)).toNat ((0 : Int), (0 : Int))).2)) fun b7 =>
        reqP (0 ≤ (iSub .i64 j5.2.2.2.2.1 (1 : Int)) ∧ (iSub .i64 j5.2.2.2.2.1 (1 : Int)) < (b7.length : Int)) <|
        bnd (b7.set (iSub .i64 j5.2.2.2.2.1 (1 : Int)).toNat ((j5.1.getD j5.2.2.2.2.1.toNat ((0 : Int), (0 : Int))).1, (j5.1.getD j5.2.2.2.2.1.toNat ((0 : Int), (0 : Int))).2)) fun b8 =>
        bnd (iSub .i64 j5.2.2.2.2.1 (1 : Int)) fun b9 =>
        some (.inl (b8, j5.2.1, j5.2.2.1, j5.2.2.2.1, b9))
      ) (s1.1, s1.2.1, s1.2.2.1, s1.2.2.2, s1.2.2.2)) fun j4 =>
      bnd (iAdd .i64 j4.2.2.2 (1 : Int)) fun b10 =>
      some (.inl (j4.1, j4.2.1, j4.2.2.1, b10))
    else
      some (.inr (.inl s1.1))
  ) (x.1, x.2.1, x.2.2, b0)) fun j2 =>
  reqP (x.1.length = j2.length) <|
  some j2

def sh_slices_swapRangeCmpFunc_passkey_api_Gesture_ (x : (List (Int × Int)) × Int × Int × Int) : Option (List (Int × Int)) :=
  jn (α := (List (Int × Int))) (ρ := (List (Int × Int))) (loopLim (σ := ((List (Int × Int)) × Int × Int × Int × Int)) (α := (List (Int × Int)) ⊕ (List (Int × Int))) (fun s0 =>
    if (bLt s0.2.2.2.2 s0.2.2.2.1) then
      reqP (0 ≤ (iAdd .i64 s0.2.2.1 s0.2.2.2.2) ∧ (iAdd .i64 s0.2.2.1 s0.2.2.2.2) < (s0.1.length : Int)) <|
      reqP (0 ≤ (iAdd .i64 s0.2.1 s0.2.2.2.2) ∧ (iAdd .i64 s0.2.1 s0.2.2.2.2) < (s0.1.length : Int)) <|
      reqP (0 ≤ (iAdd .i64 s0.2.1 s0.2.2.2.2) ∧ (iAdd .i64 s0.2.1 s0.2.2.2.2) < (s0.1.length : Int)) <|
      bnd (s0.1.set (iAdd .i64 s0.2.1 s0.2.2.2.2).toNat ((s0.1.getD (iAdd .i64 s0.2.2.1 s0.2.2.2.2).toNat ((0 : Int), (0 : Int))).1, (s0.1.getD (iAdd .i64 s0.2.2.1 s0.2.2.2.2).toNat ((0 : Int), (0 : Int))).2)) fun b2 =>
      reqP (0 ≤ (iAdd .i64 s0.2.2.1 s0.2.2.2.2) ∧ (iAdd .i64 s0.2.2.1 s0.2.2.2.2) < (b2.length : Int)) <|
      bnd (b2.set (iAdd .i64 s0.2.2.1 s0.2.2.2.2).toNat ((s0.1.getD (iAdd .i64 s0.2.1 s0.2.2.2.2).toNat ((0 : Int), (0 : Int))).1, (s0.1.getD (iAdd .i64 s0.2.1 s0.2.2.2.2).toNat ((0 : Int), (0 : Int))).2)) fun b3 =>
      bnd (iAdd .i64 s0.2.2.2.2 (1 : Int)) fun b4 =>
      some (.inl (b3, s0.2.1, s0.2.2.1, s0.2.2.2.1, b4))
    else
      some (.inr (.inl s0.1))
  ) (x.1, x.2.1, x.2.2.1, x.2.2.2, (0 : Int))) fun j1 =>
  reqP (x.1.length = j1.length) <|
  some j1

def sh_slices_rotateCmpFunc_passkey_api_Gesture_ (x : (List (Int × Int)) × Int × Int × Int) : Option (List (Int × Int)) :=
  bnd (iSub .i64 x.2.2.1 x.2.1) fun b0 =>
  bnd (iSub .i64 x.2.2.2 x.2.2.1) fun b1 =>
  jn (α := ((List (Int × Int)) × Int × Int)) (ρ := (List (Int × Int))) (loopLim (σ := ((List (Int × Int)) × Int × Int × Int)) (α := ((List (Int × Int)) × Int × Int) ⊕ (List (Int × Int))) (fun s2 =>
    if (bNe s2.2.2.1 s2.2.2.2) then
      if (bGt s2.2.2.1 s2.2.2.2) then
        Option.bind (sh_slices_swapRangeCmpFunc_passkey_api_Gesture_ (s2.1, (iSub .i64 s2.2.1 s2.2.2.1), s2.2.1, s2.2.2.2)) fun r4 =>
        bnd (iSub .i64 s2.2.2.1 s2.2.2.2) fun b5 =>
        some (.inl (r4, s2.2.1, b5, s2.2.2.2))
      else
        Option.bind (sh_slices_swapRangeCmpFunc_passkey_api_Gesture_ (s2.1, (iSub .i64 s2.2.1 s2.2.2.1), (iSub .i64 (iAdd .i64 s2.2.1 s2.2.2.2) s2.2.2.1), s2.2.2.1)) fun r6 =>
        bnd (iSub .i64 s2.2.2.2 s2.2.2.1) fun b7 =>
        some (.inl (r6, s2.2.1, s2.2.2.1, b7))
    else
      some (.inr (.inl (s2.1, s2.2.1, s2.2.2.1)))
  ) (x.1, x.2.2.1, b0, b1)) fun j3 =>
  Option.bind (sh_slices_swapRangeCmpFunc_passkey_api_Gesture_ (j3.1, (iSub .i64 j3.2.1 j3.2.2), j3.2.1, j3.2.2)) fun r8 =>
  reqP (x.1.length = r8.length) <|
  some r8

def sh_slices_symMergeCmpFunc_passkey_api_Gesture__r : Nat → ((List (Int × Int)) × Int × Int × Int) → Option (List (Int × Int))
  | 0, _ => none
  | fuel + 1, x =>
    if (bEq (iSub .i64 x.2.2.1 x.2.1) (1 : Int)) then
      jn (α := ((List (Int × Int)) × Int × Int)) (ρ := (List (Int × Int))) (loopLim (σ := ((List (Int × Int)) × Int × Int × Int)) (α := ((List (Int × Int)) × Int × Int) ⊕ (List (Int × Int))) (fun s0 =>
        if (bLt s0.2.2.1 s0.2.2.2) then
          bnd (iConv .i64 (iShr .u64 (iConv .u64 (iAdd .i64 s0.2.2.1 s0.2.2.2)) (1 : Int))) fun b2 =>
          reqP (0 ≤ b2 ∧ b2 < (s0.1.length : Int)) <|
          reqP (0 ≤ s0.2.1 ∧ s0.2.1 < (s0.1.length : Int)) <|
          Option.bind (sh_consent_Await_1 (((s0.1.getD b2.toNat ((0 : Int), (0 : Int))).1, (s0.1.getD b2.toNat ((0 : Int), (0 : Int))).2), ((s0.1.getD s0.2.1.toNat ((0 : Int), (0 : Int))).1, (s0.1.getD s0.2.1.toNat ((0 : Int), (0 : Int))).2))) fun r3 =>
          if (bLt r3 (0 : Int)) then
            bnd (iAdd .i64 b2 (1 : Int)) fun b4 =>
            some (.inl (s0.1, s0.2.1, b4, s0.2.2.2))
          else
            some (.inl (s0.1, s0.2.1, s0.2.2.1, b2))
        else
          some (.inr (.inl (s0.1, s0.2.1, s0.2.2.1)))
      ) (x.1, x.2.1, x.2.2.1, x.2.2.2)) fun j1 =>
      jn (α := (List (Int × Int))) (ρ := (List (Int × Int))) (loopLim (σ := ((List (Int × Int)) × Int × Int)) (α := (List (Int × Int)) ⊕ (List (Int × Int))) (fun s5 =>
        if (bLt s5.2.2 (iSub .i64 s5.2.1 (1 : Int))) then
          reqP (0 ≤ (iAdd .i64 s5.2.2 (1 : Int)) ∧ (iAdd .i64 s5.2.2 (1 : Int)) < (s5.1.length : Int)) <|
          reqP (0 ≤ s5.2.2 ∧ s5.2.2 < (s5.1.length : Int)) <|
          reqP (0 ≤ s5.2.2 ∧ s5.2.2 < (s5.1.length : Int)) <|
          bnd (s5.1.set s5.2.2.toNat ((s5.1.getD (iAdd .i64 s5.2.2 (1 : Int)).toNat ((0 : Int), (0 : Int))).1, (s5.1.getD (iAdd .i64 s5.2.2 (1 : Int)).toNat ((0 : Int), (0 : Int))).2)) fun b7 =>
          reqP (0 ≤ (iAdd .i64 s5.2.2 (1 : Int)) ∧ (iAdd .i64 s5.2.2 (1 : Int)) < (b7.length : Int)) <|
          bnd (b7.set (iAdd .i64 s5.2.2 (1 : Int)).toNat ((s5.1.getD s5.2.2.toNat ((0 : Int), (0 : Int))).1, (s5.1.getD s5.2.2.toNat ((0 : Int), (0 : Int))).2)) fun b8 =>
          bnd (iAdd .i64 s5.2.2 (1 : Int)) fun b9 =>
          some (.inl (b8, s5.2.1, b9))
        else
          some (.inr (.inl s5.1))
      ) (j1.1, j1.2.2, j1.2.1)) fun j6 =>
      reqP (x.1.length = j6.length) <|
      some j6
    else
      if (bEq (iSub .i64 x.2.2.2 x.2.2.1) (1 : Int)) then
        jn (α := ((List (Int × Int)) × Int × Int)) (ρ := (List (Int × Int))) (loopLim (σ := ((List (Int × Int)) × Int × Int × Int)) (α := ((List (Int × Int)) × Int × Int) ⊕ (List (Int × Int))) (fun s10 =>
          if (bLt s10.2.2.1 s10.2.2.2) then
            bnd (iConv .i64 (iShr .u64 (iConv .u64 (iAdd .i64 s10.2.2.1 s10.2.2.2)) (1 : Int))) fun b12 =>
            reqP (0 ≤ s10.2.1 ∧ s10.2.1 < (s10.1.length : Int)) <|
            reqP (0 ≤ b12 ∧ b12 < (s10.1.length : Int)) <|
            Option.bind (sh_consent_Await_1 (((s10.1.getD s10.2.1.toNat ((0 : Int), (0 : Int))).1, (s10.1.getD s10.2.1.toNat ((0 : Int), (0 : Int))).2), ((s10.1.getD b12.toNat ((0 : Int), (0 : Int))).1, (s10.1.getD b12.toNat ((0 : Int), (0 : Int))).2))) fun r13 =>
            if (!(bLt r13 (0 : Int))) then
              bnd (iAdd .i64 b12 (1 : Int)) fun b14 =>
              some (.inl (s10.1, s10.2.1, b14, s10.2.2.2))
            else
              some (.inl (s10.1, s10.2.1, s10.2.2.1, b12))
          else
            some (.inr (.inl (s10.1, s10.2.1, s10.2.2.1)))
        ) (x.1, x.2.2.1, x.2.1, x.2.2.1)) fun j11 =>
        jn (α := (List (Int × Int))) (ρ := (List (Int × Int))) (loopLim (σ := ((List (Int × Int)) × Int × Int)) (α := (List (Int × Int)) ⊕ (List (Int × Int))) (fun s15 =>
          if (bGt s15.2.2 s15.2.1) then
            reqP (0 ≤ (iSub .i64 s15.2.2 (1 : Int)) ∧ (iSub .i64 s15.2.2 (1 : Int)) < (s15.1.length : Int)) <|
            reqP (0 ≤ s15.2.2 ∧ s15.2.2 < (s15.1.length : Int)) <|
            reqP (0 ≤ s15.2.2 ∧ s15.2.2 < (s15.1.length : Int)) <|
            bnd (s15.1.set s15.2.2.toNat ((s15.1.getD (iSub .i64 s15.2.2 (1 : Int)).toNat ((0 : Int), (0 : Int))).1, (s15.1.getD (iSub .i64 s15.2.2 (1 : Int)).toNat ((0 : Int), (0 : Int))).2)) fun b17 =>
            reqP (0 ≤ (iSub .i64 s15.2.2 (1 : Int)) ∧ (iSub .i64 s15.2.2 (1 : Int)) < (b17.length : Int)) <|
            bnd (b17.set (iSub .i64 s15.2.2 (1 : Int)).toNat ((s15.1.getD s15.2.2.toNat ((0 : Int), (0 : Int))).1, (s15.1.getD s15.2.2.toNat ((0 : Int), (0 : Int))).2)) fun b18 =>
            bnd (iSub .i64 s15.2.2 (1 : Int)) fun b19 =>
            some (.inl (b18, s15.2.1, b19))
          else
            some (.inr (.inl s15.1))
        ) (j11.1, j11.2.2, j11.2.1)) fun j16 =>
        reqP (x.1.length = j16.length) <|
        some j16
      else
        bnd (iConv .i64 (iShr .u64 (iConv .u64 (iAdd .i64 x.2.1 x.2.2.2)) (1 : Int))) fun b20 =>
        bnd (iAdd .i64 b20 x.2.2.1) fun b21 =>
        jn (α := ((List (Int × Int)) × Int × Int × Int × Int × Int × Int × Int)) (ρ := (List (Int × Int))) (
          if (bGt x.2.2.1 b20) then
            bnd (iSub .i64 b21 x.2.2.2) fun b23 =>
            some (.inl (x.1, x.2.1, x.2.2.1, x.2.2.2, b20, b21, b23, b20))
          else
            some (.inl (x.1, x.2.1, x.2.2.1, x.2.2.2, b20, b21, x.2.1, x.2.2.1))
        ) fun j22 =>
        bnd (iSub .i64 j22.2.2.2.2.2.1 (1 : Int)) fun b24 =>
        jn (α := ((List (Int × Int)) × Int × Int × Int × Int × Int × Int)) (ρ := (List (Int × Int))) (loopLim (σ := ((List (Int × Int)) × Int × Int × Int × Int × Int × Int × Int × Int)) (α := ((List (Int × Int)) × Int × Int × Int × Int × Int × Int) ⊕ (List (Int × Int))) (fun s25 =>
          if (bLt s25.2.2.2.2.2.2.1 s25.2.2.2.2.2.2.2.1) then
            bnd (iConv .i64 (iShr .u64 (iConv .u64 (iAdd .i64 s25.2.2.2.2.2.2.1 s25.2.2.2.2.2.2.2.1)) (1 : Int))) fun b27 =>
            reqP (0 ≤ (iSub .i64 s25.2.2.2.2.2.2.2.2 b27) ∧ (iSub .i64 s25.2.2.2.2.2.2.2.2 b27) < (s25.1.length : Int)) <|
            reqP (0 ≤ b27 ∧ b27 < (s25.1.length : Int)) <|
            Option.bind (sh_consent_Await_1 (((s25.1.getD (iSub .i64 s25.2.2.2.2.2.2.2.2 b27).toNat ((0 : Int), (0 : Int))).1, (s25.1.getD (iSub .i64 s25.2.2.2.2.2.2.2.2 b27).toNat ((0 : Int), (0 : Int))).2), ((s25.1.getD b27.toNat ((0 : Int), (0 : Int))).1, (s25.1.getD b27.toNat ((0 : Int), (0 : Int))).2))) fun r28 =>
            if (!(bLt r28 (0 : Int))) then
              bnd (iAdd .i64 b27 (1 : Int)) fun b29 =>
              some (.inl (s25.1, s25.2.1, s25.2.2.1, s25.2.2.2.1, s25.2.2.2.2.1, s25.2.2.2.2.2.1, b29, s25.2.2.2.2.2.2.2.1, s25.2.2.2.2.2.2.2.2))
            else
              some (.inl (s25.1, s25.2.1, s25.2.2.1, s25.2.2.2.1, s25.2.2.2.2.1, s25.2.2.2.2.2.1, s25.2.2.2.2.2.2.1, b27, s25.2.2.2.2.2.2.2.2))
          else
            some (.inr (.inl (s25.1, s25.2.1, s25.2.2.1, s25.2.2.2.1, s25.2.2.2.2.1, s25.2.2.2.2.2.1, s25.2.2.2.2.2.2.1)))
        ) (j22.1, j22.2.1, j22.2.2.1, j22.2.2.2.1, j22.2.2.2.2.1, j22.2.2.2.2.2.1, j22.2.2.2.2.2.2.1, j22.2.2.2.2.2.2.2, b24)) fun j26 =>
        bnd (iSub .i64 j26.2.2.2.2.2.1 j26.2.2.2.2.2.2) fun b30 =>
        jn (α := ((List (Int × Int)) × Int × Int × Int × Int × Int)) (ρ := (List (Int × Int))) (
          if (bLt j26.2.2.2.2.2.2 j26.2.2.1) then
            if (bLt j26.2.2.1 b30) then
              Option.bind (sh_slices_rotateCmpFunc_passkey_api_Gesture_ (j26.1, j26.2.2.2.2.2.2, j26.2.2.1, b30)) fun r32 =>
              some (.inl (r32, j26.2.1, j26.2.2.2.1, j26.2.2.2.2.1, j26.2.2.2.2.2.2, b30))
            else
              some (.inl (j26.1, j26.2.1, j26.2.2.2.1, j26.2.2.2.2.1, j26.2.2.2.2.2.2, b30))
          else
            some (.inl (j26.1, j26.2.1, j26.2.2.2.1, j26.2.2.2.2.1, j26.2.2.2.2.2.2, b30))
        ) fun j31 =>
        jn (α := ((List (Int × Int)) × Int × Int × Int)) (ρ := (List (Int × Int))) (
          if (bLt j31.2.1 j31.2.2.2.2.1) then
            if (bLt j31.2.2.2.2.1 j31.2.2.2.1) then
              Option.bind (sh_slices_symMergeCmpFunc_passkey_api_Gesture__r fuel (j31.1, j31.2.1, j31.2.2.2.2.1, j31.2.2.2.1)) fun r34 =>
              some (.inl (r34, j31.2.2.1, j31.2.2.2.1, j31.2.2.2.2.2))
            else
              some (.inl (j31.1, j31.2.2.1, j31.2.2.2.1, j31.2.2.2.2.2))
          else
            some (.inl (j31.1, j31.2.2.1, j31.2.2.2.1, j31.2.2.2.2.2))
        ) fun j33 =>
        if (bLt j33.2.2.1 j33.2.2.2) then
          if (bLt j33.2.2.2 j33.2.1) then
            Option.bind (sh_slices_symMergeCmpFunc_passkey_api_Gesture__r fuel (j33.1, j33.2.2.1, j33.2.2.2, j33.2.1)) fun r35 =>
            reqP (x.1.length = r35.length) <|
            some r35
          else
            reqP (x.1.length = j33.1.length) <|
            some j33.1
        else
          reqP (x.1.length = j33.1.length) <|
          some j33.1

def sh_slices_symMergeCmpFunc_passkey_api_Gesture_ (x : (List (Int × Int)) × Int × Int × Int) : Option (List (Int × Int)) :=
  sh_slices_symMergeCmpFunc_passkey_api_Gesture__r 64 x

def sh_slices_stableCmpFunc_passkey_api_Gesture_ (x : (List (Int × Int)) × Int) : Option (List (Int × Int)) :=
  bnd (20 : Int) fun b0 =>
  jn (α := ((List (Int × Int)) × Int × Int × Int)) (ρ := (List (Int × Int))) (loopLim (σ := ((List (Int × Int)) × Int × Int × Int × Int)) (α := ((List (Int × Int)) × Int × Int × Int) ⊕ (List (Int × Int))) (fun s1 =>
    if (bLe s1.2.2.2.2 s1.2.1) then
      Option.bind (sh_slices_insertionSortCmpFunc_passkey_api_Gesture_ (s1.1, s1.2.2.2.1, s1.2.2.2.2)) fun r3 =>
      bnd (iAdd .i64 s1.2.2.2.2 s1.2.2.1) fun b4 =>
      some (.inl (r3, s1.2.1, s1.2.2.1, s1.2.2.2.2, b4))
    else
      some (.inr (.inl (s1.1, s1.2.1, s1.2.2.1, s1.2.2.2.1)))
  ) (x.1, x.2, (20 : Int), (0 : Int), b0)) fun j2 =>
  Option.bind (sh_slices_insertionSortCmpFunc_passkey_api_Gesture_ (j2.1, j2.2.2.2, j2.2.1)) fun r5 =>
  jn (α := (List (Int × Int))) (ρ := (List (Int × Int))) (loopLim (σ := ((List (Int × Int)) × Int × Int)) (α := (List (Int × Int)) ⊕ (List (Int × Int))) (fun s6 =>
    if (bLt s6.2.2 s6.2.1) then
      bnd (iMul .i64 (2 : Int) s6.2.2) fun b8 =>
      jn (α := ((List (Int × Int)) × Int × Int × Int)) (ρ := (((List (Int × Int)) × Int × Int) ⊕ ((List (Int × Int)) ⊕ (List (Int × Int))))) (loopLim (σ := ((List (Int × Int)) × Int × Int × Int × Int)) (α := ((List (Int × Int)) × Int × Int × Int) ⊕ (((List (Int × Int)) × Int × Int) ⊕ ((List (Int × Int)) ⊕ (List (Int × Int))))) (fun s9 =>
        if (bLe s9.2.2.2.2 s9.2.1) then
          Option.bind (sh_slices_symMergeCmpFunc_passkey_api_Gesture_ (s9.1, s9.2.2.2.1, (iAdd .i64 s9.2.2.2.1 s9.2.2.1), s9.2.2.2.2)) fun r11 =>
          bnd (iAdd .i64 s9.2.2.2.2 (iMul .i64 (2 : Int) s9.2.2.1)) fun b12 =>
          some (.inl (r11, s9.2.1, s9.2.2.1, s9.2.2.2.2, b12))
        else
          some (.inr (.inl (s9.1, s9.2.1, s9.2.2.1, s9.2.2.2.1)))
      ) (s6.1, s6.2.1, s6.2.2, (0 : Int), b8)) fun j10 =>
      jn (α := ((List (Int × Int)) × Int × Int)) (ρ := (((List (Int × Int)) × Int × Int) ⊕ ((List (Int × Int)) ⊕ (List (Int × Int))))) (
        bnd (iAdd .i64 j10.2.2.2 j10.2.2.1) fun b14 =>
        if (bLt b14 j10.2.1) then
          Option.bind (sh_slices_symMergeCmpFunc_passkey_api_Gesture_ (j10.1, j10.2.2.2, b14, j10.2.1)) fun r15 =>
          some (.inl (r15, j10.2.1, j10.2.2.1))
        else
          some (.inl (j10.1, j10.2.1, j10.2.2.1))
      ) fun j13 =>
      bnd (iMul .i64 j13.2.2 (2 : Int)) fun b16 =>
      some (.inl (j13.1, j13.2.1, b16))
    else
      some (.inr (.inl s6.1))
  ) (r5, j2.2.1, j2.2.2.1)) fun j7 =>
  reqP (x.1.length = j7.length) <|
  some j7

def sh_slices_SortStableFunc___passkey_api_Gesture_passkey_api_Gesture_ (x : (List (Int × Int))) : Option (List (Int × Int)) :=
  Option.bind (sh_slices_stableCmpFunc_passkey_api_Gesture_ (x, (x.length : Int))) fun r0 =>
  reqP (x.length = r0.length) <|
  some r0

def sh_consent_Await (x : Int × Bool × Bool × (List (Int × Int))) : Option (Bool × Bool × Int × Int) :=
  jn (α := (Int × Int × Bool × Bool × (List (Int × Int)))) (ρ := (Bool × Bool × Int × Int)) (
    if (bLt x.1 (0 : Int)) then
      some (.inr (false, false, (0 : Int), (9 : Int)))
    else
      if (bGt x.1 (1099511627776 : Int)) then
        some (.inr (false, false, (0 : Int), (9 : Int)))
      else
        some (.inl ((0 : Int), x.1, x.2.1, x.2.2.1, x.2.2.2))
  ) fun j0 =>
  jn (α := (Int × Int × Bool × Bool × (List (Int × Int)))) (ρ := (Bool × Bool × Int × Int)) (
    if j0.2.2.2.1 then
      if (!j0.2.2.1) then
        some (.inr (false, false, (0 : Int), (23 : Int)))
      else
        some (.inl (j0.1, j0.2.1, j0.2.2.1, j0.2.2.2.1, j0.2.2.2.2))
    else
      some (.inl (j0.1, j0.2.1, j0.2.2.1, j0.2.2.2.1, j0.2.2.2.2))
  ) fun j1 =>
  Option.bind (sh_slices_Clone___passkey_api_Gesture_passkey_api_Gesture_ j1.2.2.2.2) fun r2 =>
  Option.bind (sh_slices_SortStableFunc___passkey_api_Gesture_passkey_api_Gesture_ r2) fun r3 =>
  jn (α := Int) (ρ := (Bool × Bool × Int × Int)) (loopLim (σ := (Int × (List (Int × Int)) × Int × Bool × Bool × Int × Int)) (α := Int ⊕ (Bool × Bool × Int × Int)) (fun s4 =>
    if (bLt s4.2.2.2.2.2.2 s4.2.2.2.2.2.1) then
      reqP (0 ≤ s4.2.2.2.2.2.2 ∧ s4.2.2.2.2.2.2 < (s4.2.1.length : Int)) <|
      jn (α := (Int × Int × Int × (List (Int × Int)) × Int × Bool × Bool × Int × Int × Int × Int × Int × Int × Bool)) (ρ := ((Int × (List (Int × Int)) × Int × Bool × Bool × Int × Int) ⊕ (Int ⊕ (Bool × Bool × Int × Int)))) (
        if (bLe (s4.2.1.getD s4.2.2.2.2.2.2.toNat ((0 : Int), (0 : Int))).1 s4.2.2.1) then
          bnd (iAdd .i64 s4.2.2.2.2.2.2 (1 : Int)) fun b7 =>
          some (.inr (.inl (s4.1, s4.2.1, s4.2.2.1, s4.2.2.2.1, s4.2.2.2.2.1, s4.2.2.2.2.2.1, b7)))
        else
          if (bGt (s4.2.1.getD s4.2.2.2.2.2.2.toNat ((0 : Int), (0 : Int))).1 (iMin (iAdd .i64 s4.2.2.1 (30 : Int)) (1099511627776 : Int))) then
            bnd (iAdd .i64 s4.2.2.2.2.2.2 (1 : Int)) fun b8 =>
            some (.inr (.inl (s4.1, s4.2.1, s4.2.2.1, s4.2.2.2.1, s4.2.2.2.2.1, s4.2.2.2.2.2.1, b8)))
          else
            some (.inl ((s4.2.1.getD s4.2.2.2.2.2.2.toNat ((0 : Int), (0 : Int))).1, (s4.2.1.getD s4.2.2.2.2.2.2.toNat ((0 : Int), (0 : Int))).2, s4.1, s4.2.1, s4.2.2.1, s4.2.2.2.1, s4.2.2.2.2.1, s4.2.2.2.2.2.1, s4.2.2.2.2.2.2, (s4.2.1.getD s4.2.2.2.2.2.2.toNat ((0 : Int), (0 : Int))).1, s4.2.2.1, (iAdd .i64 s4.2.2.1 (30 : Int)), (iMin (iAdd .i64 s4.2.2.1 (30 : Int)) (1099511627776 : Int)), (bGt (s4.2.1.getD s4.2.2.2.2.2.2.toNat ((0 : Int), (0 : Int))).1 (iMin (iAdd .i64 s4.2.2.1 (30 : Int)) (1099511627776 : Int)))))
      ) fun j6 =>
      Option.bind (sh_consent_decide ((j6.1, j6.2.1), j6.2.2.2.2.2.1, j6.2.2.2.2.2.2.1)) fun r9 =>
      if r9.2.2.2.2 then
        some (.inr (.inr (r9.1, r9.2.1, r9.2.2.1, r9.2.2.2.1)))
      else
        bnd (iAdd .i64 j6.2.2.2.2.2.2.2.2.1 (1 : Int)) fun b10 =>
        some (.inl (j6.2.2.1, j6.2.2.2.1, j6.2.2.2.2.1, j6.2.2.2.2.2.1, j6.2.2.2.2.2.2.1, j6.2.2.2.2.2.2.2.1, b10))
    else
      some (.inr (.inl s4.1))
  ) (j1.1, r3, j1.2.1, j1.2.2.1, j1.2.2.2.1, (r3.length : Int), (0 : Int))) fun j5 =>
  some (false, false, (0 : Int), (19 : Int))

def sh_passkeylaw13_awake (x : Unit) : Option Bool :=
  bnd ((List.replicate 1 ((0 : Int), (0 : Int))).set 0 ((10 : Int), (1 : Int))) fun b0 =>
  Option.bind (sh_consent_Await ((10 : Int), false, false, b0)) fun r1 =>
  bnd ((List.replicate 1 ((0 : Int), (0 : Int))).set 0 ((11 : Int), (1 : Int))) fun b2 =>
  Option.bind (sh_consent_Await ((10 : Int), false, false, b2)) fun r3 =>
  Option.bind (sh_consent_Await ((10 : Int), false, true, ([] : List (Int × Int)))) fun r4 =>
  if (bEq r1.2.2.2 (19 : Int)) then
    if (bEq r3.2.2.2 (0 : Int)) then
      if (bEq r4.2.2.2 (23 : Int)) then
        bnd ((bIff r3.1 true) && ((bIff r3.2.1 false) && ((bEq r3.2.2.1 (11 : Int)) && true))) fun b5 =>
        some b5
      else
        some false
    else
      some false
  else
    some false

def sh_passkeyref10_Await (x : Int × Bool × Bool × (List (Int × Int))) : Option (Bool × Bool × Int × Int) :=
  jn (α := (Int × Int × Bool × Bool × (List (Int × Int)))) (ρ := (Bool × Bool × Int × Int)) (
    if (bLt x.1 (0 : Int)) then
      some (.inr (false, false, (0 : Int), (9 : Int)))
    else
      if (bGt x.1 (1099511627776 : Int)) then
        some (.inr (false, false, (0 : Int), (9 : Int)))
      else
        some (.inl ((0 : Int), x.1, x.2.1, x.2.2.1, x.2.2.2))
  ) fun j0 =>
  jn (α := (Int × Int × Bool × Bool × (List (Int × Int)))) (ρ := (Bool × Bool × Int × Int)) (
    if j0.2.2.2.1 then
      if (!j0.2.2.1) then
        some (.inr (false, false, (0 : Int), (23 : Int)))
      else
        some (.inl (j0.1, j0.2.1, j0.2.2.1, j0.2.2.2.1, j0.2.2.2.2))
    else
      some (.inl (j0.1, j0.2.1, j0.2.2.1, j0.2.2.2.1, j0.2.2.2.2))
  ) fun j1 =>
  bnd (iAdd .i64 j1.2.1 (1 : Int)) fun b2 =>
  jn (α := Int) (ρ := (Bool × Bool × Int × Int)) (loopLim (σ := (Int × Int × Bool × Bool × (List (Int × Int)) × Int)) (α := Int ⊕ (Bool × Bool × Int × Int)) (fun s3 =>
    if (bLe s3.2.2.2.2.2 (iMin (iAdd .i64 s3.2.1 (30 : Int)) (1099511627776 : Int))) then
      jn (α := (Int × Int × Bool × Bool × (List (Int × Int)) × Int)) (ρ := ((Int × Int × Bool × Bool × (List (Int × Int)) × Int) ⊕ (Int ⊕ (Bool × Bool × Int × Int)))) (loopLim (σ := (Int × Int × Bool × Bool × (List (Int × Int)) × Int × Int)) (α := (Int × Int × Bool × Bool × (List (Int × Int)) × Int) ⊕ ((Int × Int × Bool × Bool × (List (Int × Int)) × Int) ⊕ (Int ⊕ (Bool × Bool × Int × Int)))) (fun s5 =>
        if (bLt s5.2.2.2.2.2.2 (s5.2.2.2.2.1.length : Int)) then
          jn (α := (Int × Int × Bool × Bool × (List (Int × Int)) × Int × Int)) (ρ := ((Int × Int × Bool × Bool × (List (Int × Int)) × Int × Int) ⊕ ((Int × Int × Bool × Bool × (List (Int × Int)) × Int) ⊕ ((Int × Int × Bool × Bool × (List (Int × Int)) × Int) ⊕ (Int ⊕ (Bool × Bool × Int × Int)))))) (
            atL s5.2.2.2.2.1 s5.2.2.2.2.2.2 fun y8 =>
            if (bNe y8.1 s5.2.2.2.2.2.1) then
              some (.inl (s5.1, s5.2.1, s5.2.2.1, s5.2.2.2.1, s5.2.2.2.2.1, s5.2.2.2.2.2.1, s5.2.2.2.2.2.2))
            else
              jn (α := (Int × Int × Bool × Bool × (List (Int × Int)) × Int × Int × Bool)) (ρ := ((Int × Int × Bool × Bool × (List (Int × Int)) × Int × Int) ⊕ ((Int × Int × Bool × Bool × (List (Int × Int)) × Int × Int) ⊕ ((Int × Int × Bool × Bool × (List (Int × Int)) × Int) ⊕ ((Int × Int × Bool × Bool × (List (Int × Int)) × Int) ⊕ (Int ⊕ (Bool × Bool × Int × Int))))))) (
                atL s5.2.2.2.2.1 s5.2.2.2.2.2.2 fun y10 =>
                if (bEq y10.2 (1 : Int)) then
                  some (.inl (s5.1, s5.2.1, s5.2.2.1, s5.2.2.2.1, s5.2.2.2.2.1, s5.2.2.2.2.2.1, s5.2.2.2.2.2.2, true))
                else
                  atL s5.2.2.2.2.1 s5.2.2.2.2.2.2 fun y11 =>
                  if (bEq y11.2 (2 : Int)) then
                    if (!s5.2.2.1) then
                      some (.inl (s5.1, s5.2.1, s5.2.2.1, s5.2.2.2.1, s5.2.2.2.2.1, s5.2.2.2.2.2.1, s5.2.2.2.2.2.2, true))
                    else
                      atL s5.2.2.2.2.1 s5.2.2.2.2.2.2 fun y12 =>
                      if (bEq y12.2 (3 : Int)) then
                        some (.inl (s5.1, s5.2.1, s5.2.2.1, s5.2.2.2.1, s5.2.2.2.2.1, s5.2.2.2.2.2.1, s5.2.2.2.2.2.2, (!s5.2.2.2.1)))
                      else
                        some (.inl (s5.1, s5.2.1, s5.2.2.1, s5.2.2.2.1, s5.2.2.2.2.1, s5.2.2.2.2.2.1, s5.2.2.2.2.2.2, false))
                  else
                    atL s5.2.2.2.2.1 s5.2.2.2.2.2.2 fun y13 =>
                    if (bEq y13.2 (3 : Int)) then
                      some (.inl (s5.1, s5.2.1, s5.2.2.1, s5.2.2.2.1, s5.2.2.2.2.1, s5.2.2.2.2.2.1, s5.2.2.2.2.2.2, (!s5.2.2.2.1)))
                    else
                      some (.inl (s5.1, s5.2.1, s5.2.2.1, s5.2.2.2.1, s5.2.2.2.2.1, s5.2.2.2.2.2.1, s5.2.2.2.2.2.2, false))
              ) fun j9 =>
              if j9.2.2.2.2.2.2.2 then
                if (!j9.2.2.2.1) then
                  some (.inr (.inr (.inr (.inr (.inr (true, false, j9.2.2.2.2.2.1, (0 : Int)))))))
                else
                  atL j9.2.2.2.2.1 j9.2.2.2.2.2.2.1 fun y14 =>
                  if (bEq y14.2 (2 : Int)) then
                    if j9.2.2.1 then
                      some (.inr (.inr (.inr (.inr (.inr (true, true, j9.2.2.2.2.2.1, (0 : Int)))))))
                    else
                      atL j9.2.2.2.2.1 j9.2.2.2.2.2.2.1 fun y15 =>
                      if (bEq y15.2 (3 : Int)) then
                        if j9.2.2.2.1 then
                          some (.inr (.inr (.inr (.inr (.inr (false, false, (0 : Int), (20 : Int)))))))
                        else
                          atL j9.2.2.2.2.1 j9.2.2.2.2.2.2.1 fun y16 =>
                          bnd (bEq y16.2 (4 : Int)) fun b17 =>
                          if b17 then
                            some (.inr (.inr (.inr (.inr (.inr (false, false, (0 : Int), (20 : Int)))))))
                          else
                            atL j9.2.2.2.2.1 j9.2.2.2.2.2.2.1 fun y18 =>
                            bnd (bEq y18.2 (5 : Int)) fun b19 =>
                            if b19 then
                              some (.inr (.inr (.inr (.inr (.inr (false, false, (0 : Int), (21 : Int)))))))
                            else
                              some (.inl (j9.1, j9.2.1, j9.2.2.1, j9.2.2.2.1, j9.2.2.2.2.1, j9.2.2.2.2.2.1, j9.2.2.2.2.2.2.1))
                      else
                        atL j9.2.2.2.2.1 j9.2.2.2.2.2.2.1 fun y20 =>
                        bnd (bEq y20.2 (4 : Int)) fun b21 =>
                        if b21 then
                          some (.inr (.inr (.inr (.inr (.inr (false, false, (0 : Int), (20 : Int)))))))
                        else
                          atL j9.2.2.2.2.1 j9.2.2.2.2.2.2.1 fun y22 =>
                          bnd (bEq y22.2 (5 : Int)) fun b23 =>
                          if b23 then
                            some (.inr (.inr (.inr (.inr (.inr (false, false, (0 : Int), (21 : Int)))))))
                          else
                            some (.inl (j9.1, j9.2.1, j9.2.2.1, j9.2.2.2.1, j9.2.2.2.2.1, j9.2.2.2.2.2.1, j9.2.2.2.2.2.2.1))
                  else
                    atL j9.2.2.2.2.1 j9.2.2.2.2.2.2.1 fun y24 =>
                    if (bEq y24.2 (3 : Int)) then
                      if j9.2.2.2.1 then
                        some (.inr (.inr (.inr (.inr (.inr (false, false, (0 : Int), (20 : Int)))))))
                      else
                        atL j9.2.2.2.2.1 j9.2.2.2.2.2.2.1 fun y25 =>
                        bnd (bEq y25.2 (4 : Int)) fun b26 =>
                        if b26 then
                          some (.inr (.inr (.inr (.inr (.inr (false, false, (0 : Int), (20 : Int)))))))
                        else
                          atL j9.2.2.2.2.1 j9.2.2.2.2.2.2.1 fun y27 =>
                          bnd (bEq y27.2 (5 : Int)) fun b28 =>
                          if b28 then
                            some (.inr (.inr (.inr (.inr (.inr (false, false, (0 : Int), (21 : Int)))))))
                          else
                            some (.inl (j9.1, j9.2.1, j9.2.2.1, j9.2.2.2.1, j9.2.2.2.2.1, j9.2.2.2.2.2.1, j9.2.2.2.2.2.2.1))
                    else
                      atL j9.2.2.2.2.1 j9.2.2.2.2.2.2.1 fun y29 =>
                      bnd (bEq y29.2 (4 : Int)) fun b30 =>
                      if b30 then
                        some (.inr (.inr (.inr (.inr (.inr (false, false, (0 : Int), (20 : Int)))))))
                      else
                        atL j9.2.2.2.2.1 j9.2.2.2.2.2.2.1 fun y31 =>
                        bnd (bEq y31.2 (5 : Int)) fun b32 =>
                        if b32 then
                          some (.inr (.inr (.inr (.inr (.inr (false, false, (0 : Int), (21 : Int)))))))
                        else
                          some (.inl (j9.1, j9.2.1, j9.2.2.1, j9.2.2.2.1, j9.2.2.2.2.1, j9.2.2.2.2.2.1, j9.2.2.2.2.2.2.1))
              else
                atL j9.2.2.2.2.1 j9.2.2.2.2.2.2.1 fun y33 =>
                if (bEq y33.2 (2 : Int)) then
                  if j9.2.2.1 then
                    some (.inr (.inr (.inr (.inr (.inr (true, true, j9.2.2.2.2.2.1, (0 : Int)))))))
                  else
                    atL j9.2.2.2.2.1 j9.2.2.2.2.2.2.1 fun y34 =>
                    if (bEq y34.2 (3 : Int)) then
                      if j9.2.2.2.1 then
                        some (.inr (.inr (.inr (.inr (.inr (false, false, (0 : Int), (20 : Int)))))))
                      else
                        atL j9.2.2.2.2.1 j9.2.2.2.2.2.2.1 fun y35 =>
                        bnd (bEq y35.2 (4 : Int)) fun b36 =>
                        if b36 then
                          some (.inr (.inr (.inr (.inr (.inr (false, false, (0 : Int), (20 : Int)))))))
                        else
                          atL j9.2.2.2.2.1 j9.2.2.2.2.2.2.1 fun y37 =>
                          bnd (bEq y37.2 (5 : Int)) fun b38 =>
                          if b38 then
                            some (.inr (.inr (.inr (.inr (.inr (false, false, (0 : Int), (21 : Int)))))))
                          else
                            some (.inl (j9.1, j9.2.1, j9.2.2.1, j9.2.2.2.1, j9.2.2.2.2.1, j9.2.2.2.2.2.1, j9.2.2.2.2.2.2.1))
                    else
                      atL j9.2.2.2.2.1 j9.2.2.2.2.2.2.1 fun y39 =>
                      bnd (bEq y39.2 (4 : Int)) fun b40 =>
                      if b40 then
                        some (.inr (.inr (.inr (.inr (.inr (false, false, (0 : Int), (20 : Int)))))))
                      else
                        atL j9.2.2.2.2.1 j9.2.2.2.2.2.2.1 fun y41 =>
                        bnd (bEq y41.2 (5 : Int)) fun b42 =>
                        if b42 then
                          some (.inr (.inr (.inr (.inr (.inr (false, false, (0 : Int), (21 : Int)))))))
                        else
                          some (.inl (j9.1, j9.2.1, j9.2.2.1, j9.2.2.2.1, j9.2.2.2.2.1, j9.2.2.2.2.2.1, j9.2.2.2.2.2.2.1))
                else
                  atL j9.2.2.2.2.1 j9.2.2.2.2.2.2.1 fun y43 =>
                  if (bEq y43.2 (3 : Int)) then
                    if j9.2.2.2.1 then
                      some (.inr (.inr (.inr (.inr (.inr (false, false, (0 : Int), (20 : Int)))))))
                    else
                      atL j9.2.2.2.2.1 j9.2.2.2.2.2.2.1 fun y44 =>
                      bnd (bEq y44.2 (4 : Int)) fun b45 =>
                      if b45 then
                        some (.inr (.inr (.inr (.inr (.inr (false, false, (0 : Int), (20 : Int)))))))
                      else
                        atL j9.2.2.2.2.1 j9.2.2.2.2.2.2.1 fun y46 =>
                        bnd (bEq y46.2 (5 : Int)) fun b47 =>
                        if b47 then
                          some (.inr (.inr (.inr (.inr (.inr (false, false, (0 : Int), (21 : Int)))))))
                        else
                          some (.inl (j9.1, j9.2.1, j9.2.2.1, j9.2.2.2.1, j9.2.2.2.2.1, j9.2.2.2.2.2.1, j9.2.2.2.2.2.2.1))
                  else
                    atL j9.2.2.2.2.1 j9.2.2.2.2.2.2.1 fun y48 =>
                    bnd (bEq y48.2 (4 : Int)) fun b49 =>
                    if b49 then
                      some (.inr (.inr (.inr (.inr (.inr (false, false, (0 : Int), (20 : Int)))))))
                    else
                      atL j9.2.2.2.2.1 j9.2.2.2.2.2.2.1 fun y50 =>
                      bnd (bEq y50.2 (5 : Int)) fun b51 =>
                      if b51 then
                        some (.inr (.inr (.inr (.inr (.inr (false, false, (0 : Int), (21 : Int)))))))
                      else
                        some (.inl (j9.1, j9.2.1, j9.2.2.1, j9.2.2.2.1, j9.2.2.2.2.1, j9.2.2.2.2.2.1, j9.2.2.2.2.2.2.1))
          ) fun j7 =>
          bnd (iAdd .i64 j7.2.2.2.2.2.2 (1 : Int)) fun b52 =>
          some (.inl (j7.1, j7.2.1, j7.2.2.1, j7.2.2.2.1, j7.2.2.2.2.1, j7.2.2.2.2.2.1, b52))
        else
          some (.inr (.inl (s5.1, s5.2.1, s5.2.2.1, s5.2.2.2.1, s5.2.2.2.2.1, s5.2.2.2.2.2.1)))
      ) (s3.1, s3.2.1, s3.2.2.1, s3.2.2.2.1, s3.2.2.2.2.1, s3.2.2.2.2.2, (0 : Int))) fun j6 =>
      bnd (iAdd .i64 j6.2.2.2.2.2 (1 : Int)) fun b53 =>
      some (.inl (j6.1, j6.2.1, j6.2.2.1, j6.2.2.2.1, j6.2.2.2.2.1, b53))
    else
      some (.inr (.inl s3.1))
  ) (j1.1, j1.2.1, j1.2.2.1, j1.2.2.2.1, j1.2.2.2.2, b2)) fun j4 =>
  some (false, false, (0 : Int), (19 : Int))

def sh_passkeylaw13_made (x : Int × (List Int)) : Option (List (Int × Int)) :=
  jn (α := (List (Int × Int))) (ρ := (List (Int × Int))) (loopLim (σ := ((List (Int × Int)) × Int × (List Int) × Int)) (α := (List (Int × Int)) ⊕ (List (Int × Int))) (fun s0 =>
    jn (α := ((List (Int × Int)) × Int × (List Int) × Int × Int × Bool)) (ρ := (((List (Int × Int)) × Int × (List Int) × Int) ⊕ ((List (Int × Int)) ⊕ (List (Int × Int))))) (
      if (bLt s0.2.2.2 (s0.2.2.1.length : Int)) then
        if (bLt s0.2.2.2 (8 : Int)) then
          some (.inl (s0.1, s0.2.1, s0.2.2.1, s0.2.2.2, s0.2.2.2, (bLt s0.2.2.2 (8 : Int))))
        else
          some (.inr (.inr (.inl s0.1)))
      else
        some (.inr (.inr (.inl s0.1)))
    ) fun j2 =>
    atL j2.2.2.1 j2.2.2.2.1 fun y3 =>
    atL j2.2.2.1 j2.2.2.2.1 fun y4 =>
    bnd ((List.replicate 1 ((0 : Int), (0 : Int))).set 0 ((iSub .i64 (iAdd .i64 j2.2.1 (iConv .i64 (iAnd .u16 y3 (63 : Int)))) (10 : Int)), (iSub .i64 (iConv .i64 (iAnd .u16 (iShr .u16 y4 (6 : Int)) (15 : Int))) (1 : Int)))) fun b5 =>
    reqP ((j2.1.length + b5.length) * 16 ≤ 140737488355328) <|
    bnd (j2.1 ++ b5) fun b6 =>
    bnd (iAdd .i64 j2.2.2.2.1 (1 : Int)) fun b7 =>
    some (.inl (b6, j2.2.1, j2.2.2.1, b7))
  ) (([] : List (Int × Int)), x.1, x.2, (0 : Int))) fun j1 =>
  some j1

def sh_passkeylaw13_ConsentAwaits (x : Int × Bool × Bool × (List (Int × Int)) × (List Int) × Int) : Option Bool :=
  if (bGt (x.2.2.2.1.length : Int) (50 : Int)) then
    Option.bind (sh_passkeylaw13_awake ()) fun r0 =>
    some r0
  else
    bnd (((((List.replicate 4 (0 : Int)).set 0 (iConv .i64 x.2.2.2.2.2)).set 1 (0 : Int)).set 2 (1099511627776 : Int)).set 3 (1099511627771 : Int)) fun b1 =>
    reqP (0 ≤ (iAnd .u16 (iShr .u16 x.2.2.2.2.2 (12 : Int)) (3 : Int)) ∧ (iAnd .u16 (iShr .u16 x.2.2.2.2.2 (12 : Int)) (3 : Int)) < (b1.length : Int)) <|
    bnd (b1.getD (iAnd .u16 (iShr .u16 x.2.2.2.2.2 (12 : Int)) (3 : Int)).toNat (0 : Int)) fun b2 =>
    Option.bind (sh_consent_Await (x.1, x.2.1, x.2.2.1, x.2.2.2.1)) fun r3 =>
    Option.bind (sh_passkeyref10_Await (x.1, x.2.1, x.2.2.1, x.2.2.2.1)) fun r4 =>
    Option.bind (sh_passkeylaw13_made (b2, x.2.2.2.2.1)) fun r5 =>
    Option.bind (sh_consent_Await (b2, x.2.1, x.2.2.1, r5)) fun r6 =>
    Option.bind (sh_passkeylaw13_made (b2, x.2.2.2.2.1)) fun r7 =>
    Option.bind (sh_passkeyref10_Await (b2, x.2.1, x.2.2.1, r7)) fun r8 =>
    if ((bIff r3.1 r4.1) && ((bIff r3.2.1 r4.2.1) && ((bEq r3.2.2.1 r4.2.2.1) && true))) then
      if (bEq r3.2.2.2 r4.2.2.2) then
        if ((bIff r6.1 r8.1) && ((bIff r6.2.1 r8.2.1) && ((bEq r6.2.2.1 r8.2.2.1) && true))) then
          if (bEq r6.2.2.2 r8.2.2.2) then
            Option.bind (sh_passkeylaw13_awake ()) fun r9 =>
            some r9
          else
            some false
        else
          some false
      else
        some false
    else
      some false
end
end Go.Vm
