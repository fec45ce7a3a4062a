/- Plain laws about what the functions compute. -/
import Derived.Test.YtjfiohdaeahdmaaConsentAwaitsP
/- One-time signatures: the digits of a word. -/
namespace Go.Vm

end Go.Vm
/- The hash: program and reference compute the same. -/
namespace Go.Vm

def rotl (x : Int) (k : Nat) : Int := iOr .u64 (iShl .u64 x (k : Int)) (iShr .u64 x ((64 - k : Nat) : Int))
/-- The state of the hash. -/
structure Sip where
  a : Int
  b : Int
  c : Int
  d : Int
def Sip.t (v : Sip) : Int × Int × Int × Int := (v.a, v.b, v.c, v.d)
def Sip.round (v : Sip) : Sip :=
  let a1 := iAdd .u64 v.a v.b
  let b1 := iXor .u64 (rotl v.b 13) a1
  let a2 := rotl a1 32
  let c1 := iAdd .u64 v.c v.d
  let d1 := iXor .u64 (rotl v.d 16) c1
  let a3 := iAdd .u64 a2 d1
  let d2 := iXor .u64 (rotl d1 21) a3
  let c2 := iAdd .u64 c1 b1
  let b2 := iXor .u64 (rotl b1 17) c2
  ⟨a3, b2, rotl c2 32, d2⟩
def Sip.rounds (v : Sip) : Nat → Sip
  | 0 => v
  | n + 1 => (v.rounds n).round
def Sip.last (v : Sip) : Int :=
  let v := (⟨v.a, v.b, iXor .u64 v.c 255, v.d⟩ : Sip).round.round.round.round
  iXor .u64 (iXor .u64 (iXor .u64 v.a v.b) v.c) v.d

section
variable (a b c d x : Int)
@[simp] theorem rd4_0 : arrRd (0 : Int) (⟨[a, b, c, d], rfl⟩ : Arr 4 Int) 0 = a := rfl
@[simp] theorem rd4_1 : arrRd (0 : Int) (⟨[a, b, c, d], rfl⟩ : Arr 4 Int) 1 = b := rfl
@[simp] theorem rd4_2 : arrRd (0 : Int) (⟨[a, b, c, d], rfl⟩ : Arr 4 Int) 2 = c := rfl
@[simp] theorem rd4_3 : arrRd (0 : Int) (⟨[a, b, c, d], rfl⟩ : Arr 4 Int) 3 = d := rfl
@[simp] theorem wr4_0 : arrWr (⟨[a, b, c, d], rfl⟩ : Arr 4 Int) 0 x = ⟨[x, b, c, d], rfl⟩ := rfl
@[simp] theorem wr4_1 : arrWr (⟨[a, b, c, d], rfl⟩ : Arr 4 Int) 1 x = ⟨[a, x, c, d], rfl⟩ := rfl
@[simp] theorem wr4_2 : arrWr (⟨[a, b, c, d], rfl⟩ : Arr 4 Int) 2 x = ⟨[a, b, x, d], rfl⟩ := rfl
@[simp] theorem wr4_3 : arrWr (⟨[a, b, c, d], rfl⟩ : Arr 4 Int) 3 x = ⟨[a, b, c, x], rfl⟩ := rfl
end
section
variable {ρ : Type} (y : Option ρ)
@[simp] theorem req4_0 : reqP ((0 : Int) ≤ 0 ∧ (0 : Int) < 4) y = y := reqP_pos (by decide) y
@[simp] theorem req4_1 : reqP ((0 : Int) ≤ 1 ∧ (1 : Int) < 4) y = y := reqP_pos (by decide) y
@[simp] theorem req4_2 : reqP ((0 : Int) ≤ 2 ∧ (2 : Int) < 4) y = y := reqP_pos (by decide) y
@[simp] theorem req4_3 : reqP ((0 : Int) ≤ 3 ∧ (3 : Int) < 4) y = y := reqP_pos (by decide) y
end
/-! ### Words of bytes, the least first -/
def Bytes (l : List Int) : Prop := ∀ x ∈ l, 0 ≤ x ∧ x ≤ 255
end Go.Vm
/- The hash of bytes: program and reference compute the same. -/
namespace Go.Vm

theorem Bytes.drop {b : List Int} (h : Bytes b) (n : Nat) : Bytes (b.drop n) := fun y hy => h y (List.mem_of_mem_drop hy)
theorem Bytes.take {b : List Int} (h : Bytes b) (n : Nat) : Bytes (b.take n) := fun y hy => h y (List.mem_of_mem_take hy)
end Go.Vm
/- One-time signatures: words, chains, signatures. -/
namespace Go.Vm

/-! ### Words -/
/-! ### Hash, Mac -/
/-! ### Chains -/
end Go.Vm
/- Leases: program and reference compute the same. -/
namespace Go.Vm

/-! ### Loops that look for something -/
section
variable {σ α : Type}
def nextG (o : Option α) (s : σ) : σ ⊕ α := match o with
  | some a => .inr a
  | none => .inl s
/-- The first answer of the rounds from i on. -/
def firstG (g : Nat → Option α) (e : α) (i : Nat) : Nat → α
  | 0 => e
  | n + 1 => match g i with
    | some a => a
    | none => firstG g e (i + 1) n
theorem loopLim_first {f : σ → Option (σ ⊕ α)} (st : Nat → σ) (g : Nat → Option α) (e : α) (N : Nat) (h : ∀ i, i < N → f (st i) = some (nextG (g i) (st (i + 1)))) (he : f (st N) = some (.inr e)) : ∀ n i, i + n = N → loopLim f (st i) = some (firstG g e i n)
  | 0, i, hi => by
    have : i = N := by omega
    subst this
    exact loopLim_end he
  | n + 1, i, hi => by
    have h1 := h i (by omega)
    simp only [firstG]
    cases hg : g i with
    | some a =>
      rw [hg] at h1
      exact loopLim_end h1
    | none =>
      rw [hg] at h1
      rw [loopLim_next h1]
      exact loopLim_first st g e N h he n (i + 1) (by omega)
theorem loopLim_first0 {f : σ → Option (σ ⊕ α)} {s : σ} (st : Nat → σ) (g : Nat → Option α) (e : α) (N : Nat) (h0 : s = st 0) (h : ∀ i, i < N → f (st i) = some (nextG (g i) (st (i + 1)))) (he : f (st N) = some (.inr e)) : loopLim f s = some (firstG g e 0 N) := by
  rw [h0]
  exact loopLim_first st g e N h he N 0 (by omega)
theorem jn_first {ρ : Type} {f : σ → Option (σ ⊕ (α ⊕ ρ))} {s : σ} {k : α → Option ρ} {R : Option ρ} (st : Nat → σ) (g : Nat → Option (α ⊕ ρ)) (e : α ⊕ ρ) (N : Nat) (h0 : s = st 0) (h : ∀ i, i < N → f (st i) = some (nextG (g i) (st (i + 1)))) (he : f (st N) = some (.inr e)) (hk : jn (some (firstG g e 0 N)) k = R) : jn (loopLim f s) k = R := by
  rw [loopLim_first0 st g e N h0 h he]
  exact hk
end

/-! ### Validity, the index of a tag -/
theorem getD_get {α : Type} {l : List α} {i : Nat} {d : α} (h : i < l.length) : l.getD i d = l[i] := by
  rw [List.getD_eq_getElem?_getD, List.getElem?_eq_getElem h, Option.getD_some]
/-! ### The law's own list -/
end Go.Vm
/- Consent: the sort by insertion. -/
namespace Go.Vm

abbrev Ge := Int × Int
/-- One round of the inner loop. -/
def insF (s3 : (List (Int × Int)) × Int × Int × Int × Int) : Option (((List (Int × Int)) × Int × Int × Int × Int) ⊕ (((List (Int × Int)) × Int × Int × Int) ⊕ (((List (Int × Int)) × Int × Int × Int) ⊕ ((List (Int × Int)) ⊕ (List (Int × Int)))))) :=
  jn (α := ((List (Int × Int)) × Int × Int × Int × Int × Int × Nat × Int × Int × Int × Int × Nat × Int × Int × Int × Bool)) (ρ := (((List (Int × Int)) × Int × Int × Int × Int) ⊕ (((List (Int × Int)) × Int × Int × Int) ⊕ (((List (Int × Int)) × Int × Int × Int) ⊕ ((List (Int × Int)) ⊕ (List (Int × Int))))))) (
    if (bGt s3.2.2.2.2 s3.2.1) then
      reqP (0 ≤ s3.2.2.2.2 ∧ s3.2.2.2.2 < (s3.1.length : Int)) <|
      reqP (0 ≤ (iSub .i64 s3.2.2.2.2 (1 : Int)) ∧ (iSub .i64 s3.2.2.2.2 (1 : Int)) < (s3.1.length : Int)) <|
      Option.bind (sh_consent_Await_1 (((s3.1.getD s3.2.2.2.2.toNat ((0 : Int), (0 : Int))).1, (s3.1.getD s3.2.2.2.2.toNat ((0 : Int), (0 : Int))).2), ((s3.1.getD (iSub .i64 s3.2.2.2.2 (1 : Int)).toNat ((0 : Int), (0 : Int))).1, (s3.1.getD (iSub .i64 s3.2.2.2.2 (1 : Int)).toNat ((0 : Int), (0 : Int))).2))) fun r6 =>
      if (bLt r6 (0 : Int)) then
        some (.inl (s3.1, s3.2.1, s3.2.2.1, s3.2.2.2.1, s3.2.2.2.2, s3.2.2.2.2, s3.2.2.2.2.toNat, (s3.1.getD s3.2.2.2.2.toNat ((0 : Int), (0 : Int))).1, (s3.1.getD s3.2.2.2.2.toNat ((0 : Int), (0 : Int))).2, s3.2.2.2.2, (iSub .i64 s3.2.2.2.2 (1 : Int)), (iSub .i64 s3.2.2.2.2 (1 : Int)).toNat, (s3.1.getD (iSub .i64 s3.2.2.2.2 (1 : Int)).toNat ((0 : Int), (0 : Int))).1, (s3.1.getD (iSub .i64 s3.2.2.2.2 (1 : Int)).toNat ((0 : Int), (0 : Int))).2, r6, (bLt r6 (0 : Int))))
      else
        some (.inr (.inr (.inl (s3.1, s3.2.1, s3.2.2.1, s3.2.2.2.1))))
    else
      some (.inr (.inr (.inl (s3.1, s3.2.1, s3.2.2.1, s3.2.2.2.1))))
  ) fun j5 =>
  reqP (0 ≤ (iSub .i64 j5.2.2.2.2.1 (1 : Int)) ∧ (iSub .i64 j5.2.2.2.2.1 (1 : Int)) < (j5.1.length : Int)) <|
  reqP (0 ≤ j5.2.2.2.2.1 ∧ j5.2.2.2.2.1 < (j5.1.length : Int)) <|
  reqP (0 ≤ j5.2.2.2.2.1 ∧ j5.2.2.2.2.1 < (j5.1.length : Int)) <|
  bnd (j5.1.set j5.2.2.2.2.1.toNat ((j5.1.getD (iSub .i64 j5.2.2.2.2.1 (1 : Int)).toNat ((0 : Int), (0 : Int))).1, (j5.1.getD (iSub .i64 j5.2.2.2.2.1 (1 : Int)).toNat ((0 : Int), (0 : Int))).2)) fun b7 =>
  reqP (0 ≤ (iSub .i64 j5.2.2.2.2.1 (1 : Int)) ∧ (iSub .i64 j5.2.2.2.2.1 (1 : Int)) < (b7.length : Int)) <|
  bnd (b7.set (iSub .i64 j5.2.2.2.2.1 (1 : Int)).toNat ((j5.1.getD j5.2.2.2.2.1.toNat ((0 : Int), (0 : Int))).1, (j5.1.getD j5.2.2.2.2.1.toNat ((0 : Int), (0 : Int))).2)) fun b8 =>
  bnd (iSub .i64 j5.2.2.2.2.1 (1 : Int)) fun b9 =>
  some (.inl (b8, j5.2.1, j5.2.2.1, j5.2.2.2.1, b9))

def insRev : List Ge → Ge → List Ge
  | [], x => [x]
  | y :: r, x => if x.1 < y.1 then y :: insRev r x else x :: y :: r
def sortG (l : List Ge) : List Ge := (l.foldl insRev []).reverse
theorem insRev_len (x : Ge) : ∀ r, (insRev r x).length = r.length + 1
  | [] => rfl
  | y :: r => by
    unfold insRev
    split
    · rw [List.length_cons, insRev_len x r]; rfl
    · rfl
theorem fold_len : ∀ (l r : List Ge), (l.foldl insRev r).length = r.length + l.length
  | [], r => rfl
  | x :: l, r => by rw [List.foldl_cons, fold_len l, insRev_len, List.length_cons]; omega
theorem sortG_len (l : List Ge) : (sortG l).length = l.length := by unfold sortG; rw [List.length_reverse, fold_len]; simp
theorem isNaN_eq (x : Int) : sh_cmp_isNaN_int_ x = some false := by
  unfold sh_cmp_isNaN_int_
  rw [bNe_self]; rfl
def cmpG (a b : Int) : Int := if a < b then -1 else if b < a then 1 else 0
theorem Await1_eq (a b : Ge) : sh_consent_Await_1 (a, b) = some (cmpG a.1 b.1) := by
  unfold sh_consent_Await_1 sh_cmp_Compare_int_ cmpG
  dsimp only
  rw [isNaN_eq, isNaN_eq, Option.bind_some, Option.bind_some, if_neg (by simp), if_neg (by simp)]
  by_cases h : a.1 < b.1
  · rw [if_pos (bLt_true h), if_pos h]; rfl
  · rw [if_neg (by rw [bLt_false (by omega)]; simp), if_neg h]
    by_cases k : b.1 < a.1
    · rw [if_pos (bGt_true k), if_pos k]; rfl
    · rw [if_neg (by rw [bGt_false (by omega)]; simp), if_neg k]; rfl
theorem get_mid {A q : List Ge} {y : Ge} {n : Nat} {d : Ge} (h : n = A.length) : (A ++ y :: q).getD n d = y := by
  subst h
  simp [List.getD_eq_getElem?_getD]
theorem set_mid {A q : List Ge} {y z : Ge} {n : Nat} (h : n = A.length) : (A ++ y :: q).set n z = A ++ z :: q := by
  subst h
  simp [List.set_append]
theorem inner_eq (base : List Ge) (b i : Int) (x : Ge) : ∀ (pr q : List Ge), base.length + pr.length + q.length ≤ 1000000 →
    loopLim insF (base ++ pr.reverse ++ x :: q, (base.length : Int), b, i, ((base.length + pr.length : Nat) : Int)) = some (.inl (base ++ (insRev pr x).reverse ++ q, (base.length : Int), b, i))
  | [], q, hl => by
    refine loopLim_end ?_
    unfold insF
    dsimp only
    rw [if_neg (by rw [bGt_false (by simp)]; simp), jn_inr]
    simp [insRev]
  | y :: pr, q, hl => by
    have hA : base ++ (y :: pr).reverse ++ x :: q = (base ++ pr.reverse) ++ y :: x :: q := by simp
    have hA2 : (base ++ pr.reverse) ++ y :: x :: q = (base ++ pr.reverse ++ [y]) ++ x :: q := by simp
    rw [hA]
    rw [List.length_cons] at hl ⊢
    have hlen : (base ++ pr.reverse ++ y :: x :: q).length = base.length + pr.length + 2 + q.length := by simp; omega
    have hAl : (base ++ pr.reverse).length = base.length + pr.length := by simp
    have g1 : (base ++ pr.reverse ++ y :: x :: q).getD (base.length + (pr.length + 1)) ((0 : Int), (0 : Int)) = x := by rw [hA2]; exact get_mid (by simp)
    have g2 : (base ++ pr.reverse ++ y :: x :: q).getD (base.length + pr.length) ((0 : Int), (0 : Int)) = y := get_mid (by simp)
    have e1 : iSub .i64 ((base.length + (pr.length + 1) : Nat) : Int) 1 = ((base.length + pr.length : Nat) : Int) := by rw [sub_i64 (by omega)]; omega
    have hc : cmpG x.1 y.1 < 0 ↔ x.1 < y.1 := by unfold cmpG; constructor <;> intro h <;> (repeat' split at *) <;> omega
    have step : insF (base ++ pr.reverse ++ y :: x :: q, (base.length : Int), b, i, ((base.length + (pr.length + 1) : Nat) : Int)) = if x.1 < y.1 then some (.inl (base ++ pr.reverse ++ x :: y :: q, (base.length : Int), b, i, ((base.length + pr.length : Nat) : Int))) else some (.inr (.inl (base ++ pr.reverse ++ y :: x :: q, (base.length : Int), b, i))) := by
      unfold insF
      dsimp only
      rw [if_pos (bGt_true (by omega)), e1, Int.toNat_natCast, Int.toNat_natCast, g1, g2, reqP_pos (by rw [hlen]; omega), reqP_pos (by rw [hlen]; omega), Await1_eq, Option.bind_some]
      dsimp only
      by_cases h : x.1 < y.1
      · rw [if_pos (bLt_true (hc.2 h)), if_pos h, jn_inl]
        dsimp only
        rw [e1, Int.toNat_natCast, Int.toNat_natCast, g1, g2, reqP_pos (by rw [hlen]; omega), reqP_pos (by rw [hlen]; omega), reqP_pos (by rw [hlen]; omega), bnd_eq, reqP_pos (by rw [List.length_set, hlen]; omega), bnd_eq, bnd_eq]
        have s1 : ((base ++ pr.reverse ++ y :: x :: q).set (base.length + (pr.length + 1)) (y.1, y.2)).set (base.length + pr.length) (x.1, x.2) = base ++ pr.reverse ++ x :: y :: q := by
          have : (base ++ pr.reverse ++ y :: x :: q).set (base.length + (pr.length + 1)) (y.1, y.2) = base ++ pr.reverse ++ y :: y :: q := by
            rw [hA2, set_mid (by simp)]; simp
          rw [this, set_mid (by simp)]
        rw [s1]
      · rw [if_neg (by rw [bLt_false (by have := mt hc.1 h; omega)]; simp), if_neg h, jn_inr]
    unfold insRev
    by_cases h : x.1 < y.1
    · rw [if_pos h] at step ⊢
      rw [loopLim_next step, inner_eq base b i x pr (y :: q) (by rw [List.length_cons]; omega)]
      simp
    · rw [if_neg h] at step ⊢
      rw [loopLim_end step]
      simp
noncomputable def outF (s1 : (List (Int × Int)) × Int × Int × Int) : Option (((List (Int × Int)) × Int × Int × Int) ⊕ ((List (Int × Int)) ⊕ (List (Int × Int)))) :=
    if (bLt s1.2.2.2 s1.2.2.1) then
      jn (α := ((List (Int × Int)) × Int × Int × Int)) (ρ := (((List (Int × Int)) × Int × Int × Int) ⊕ ((List (Int × Int)) ⊕ (List (Int × Int))))) (loopLim insF (s1.1, s1.2.1, s1.2.2.1, s1.2.2.2, s1.2.2.2)) fun j4 =>
      bnd (iAdd .i64 j4.2.2.2 (1 : Int)) fun b10 =>
      some (.inl (j4.1, j4.2.1, j4.2.2.1, b10))
    else
      some (.inr (.inl s1.1))
theorem outer_eq (base rest : List Ge) : ∀ (rem pr : List Ge) (b i : Int), base.length + pr.length + rem.length + rest.length ≤ 100000 → i = ((base.length + pr.length : Nat) : Int) → b = ((base.length + pr.length + rem.length : Nat) : Int) →
    loopLim outF (base ++ pr.reverse ++ (rem ++ rest), (base.length : Int), b, i) = some (.inl (base ++ (rem.foldl insRev pr).reverse ++ rest))
  | [], pr, b, i, hl, hi, hb => by
    rw [loopLim_end (a := .inl (base ++ pr.reverse ++ ([] ++ rest))) (by unfold outF; dsimp only; rw [if_neg (by rw [bLt_false (by rw [hi, hb]; simp)]; simp)])]
    simp
  | x :: rem, pr, b, i, hl, hi, hb => by
    rw [List.length_cons] at hl hb
    rw [loopLim_next (s' := (base ++ (insRev pr x).reverse ++ (rem ++ rest), (base.length : Int), b, i + 1)) (by
      unfold outF
      dsimp only
      rw [if_pos (bLt_true (by omega)), hi, List.cons_append, inner_eq base b _ x pr (rem ++ rest) (by rw [List.length_append]; omega), jn_inl]
      dsimp only
      rw [bnd_eq, add_i64 (by omega)])]
    rw [outer_eq base rest rem (insRev pr x) b (i + 1) (by rw [insRev_len]; omega) (by rw [insRev_len]; omega) (by rw [insRev_len]; omega)]
    rfl
end Go.Vm
/- Consent: sorting, what is true of it. -/
namespace Go.Vm

theorem InsSort_eq (l : List Ge) (hl : l.length ≤ 100000) : sh_slices_insertionSortCmpFunc_passkey_api_Gesture_ (l, 0, (l.length : Int)) = some (sortG l) := by
  unfold sh_slices_insertionSortCmpFunc_passkey_api_Gesture_
  dsimp only
  rw [add_i64 (by omega), bnd_eq]
  refine Eq.trans (b := jn (loopLim outF (l, 0, (l.length : Int), 0 + 1)) fun j2 => reqP (l.length = j2.length) (some j2)) rfl ?_
  have h : loopLim outF (l, 0, (l.length : Int), 0 + 1) = some (.inl (sortG l)) := by
    cases l with
    | nil => exact loopLim_end (by unfold outF; dsimp only; rw [if_neg (by decide)]; rfl)
    | cons x rem =>
      have h := outer_eq [] [] rem [x] ((rem.length + 1 : Nat) : Int) 1 (by simp at hl ⊢; omega) (by simp) (by simp; omega)
      have e : ([] : List Ge) ++ [x].reverse ++ (rem ++ []) = x :: rem := by simp
      have e2 : ([] : List Ge) ++ (rem.foldl insRev [x]).reverse ++ [] = sortG (x :: rem) := by simp [sortG, insRev]
      rw [e, e2] at h
      exact h
  rw [h, jn_inl, reqP_pos (sortG_len l).symm]
theorem Stable_eq (l : List Ge) (hl : l.length < 20) : sh_slices_stableCmpFunc_passkey_api_Gesture_ (l, (l.length : Int)) = some (sortG l) := by
  unfold sh_slices_stableCmpFunc_passkey_api_Gesture_
  dsimp only
  rw [bnd_eq, loopLim_end (a := .inl (l, (l.length : Int), 20, 0)) (by dsimp only; rw [if_neg (by rw [bLe_false (by omega)]; simp)]), jn_inl]
  dsimp only
  rw [InsSort_eq l (by omega), Option.bind_some, loopLim_end (a := .inl (sortG l)) (by dsimp only; rw [if_neg (by rw [bLt_false (by omega)]; simp)]), jn_inl, reqP_pos (sortG_len l).symm]
theorem SortStable_eq (l : List Ge) (hl : l.length < 20) : sh_slices_SortStableFunc___passkey_api_Gesture_passkey_api_Gesture_ l = some (sortG l) := by
  unfold sh_slices_SortStableFunc___passkey_api_Gesture_passkey_api_Gesture_
  rw [Stable_eq l hl, Option.bind_some, reqP_pos (sortG_len l).symm]

/-! ### In order, and stable -/
theorem insRev_filter (p : Ge → Bool) (x : Ge) (hp : ∀ y, p y = true → p x = true → ¬ x.1 < y.1) : ∀ r, (insRev r x).filter p = [x].filter p ++ r.filter p
  | [] => by simp [insRev]
  | y :: r => by
    unfold insRev
    split
    · rename_i h
      rw [List.filter_cons, insRev_filter p x hp r, List.filter_cons, List.filter_cons]
      by_cases a : p y = true
      · have b : p x = false := by
          cases b : p x with
          | false => rfl
          | true => exact absurd h (hp y a b)
        rw [if_pos a, b, if_neg (by simp), if_pos a]
        rfl
      · rw [if_neg a, if_neg a]
    · cases h : p x <;> simp [List.filter_cons, h]
theorem fold_filter (p : Ge → Bool) (hp : ∀ x y, p y = true → p x = true → ¬ x.1 < y.1) : ∀ (l r : List Ge), (l.foldl insRev r).filter p = (l.filter p).reverse ++ r.filter p
  | [], r => rfl
  | x :: l, r => by
    rw [List.foldl_cons, fold_filter p hp l, insRev_filter p x (hp x), List.filter_cons, List.filter_cons, List.filter_nil]
    split
    · simp
    · simp
theorem sort_filter (t : Int) (l : List Ge) : (sortG l).filter (fun x => x.1 == t) = l.filter (fun x => x.1 == t) := by
  unfold sortG
  rw [List.filter_reverse, fold_filter _ (fun x y hx hy => by
    have hx : y.1 = t := by simpa using hx
    have hy : x.1 = t := by simpa using hy
    omega)]
  simp
theorem insRev_mem (x : Ge) {z : Ge} : ∀ r, z ∈ insRev r x ↔ z = x ∨ z ∈ r
  | [] => by simp [insRev]
  | y :: r => by
    unfold insRev
    split
    · rw [List.mem_cons, insRev_mem x r, List.mem_cons]
      constructor
      · rintro (h | h | h)
        · exact .inr (.inl h)
        · exact .inl h
        · exact .inr (.inr h)
      · rintro (h | h | h)
        · exact .inr (.inl h)
        · exact .inl h
        · exact .inr (.inr h)
    · rw [List.mem_cons, List.mem_cons]
def Desc (r : List Ge) : Prop := r.Pairwise fun a b => b.1 ≤ a.1
theorem insRev_desc (x : Ge) : ∀ r, Desc r → Desc (insRev r x)
  | [], _ => List.pairwise_singleton _ _
  | y :: r, h => by
    obtain ⟨h1, h2⟩ := List.pairwise_cons.1 h
    unfold insRev
    split
    · rename_i c
      refine List.pairwise_cons.2 ⟨fun z hz => ?_, insRev_desc x r h2⟩
      rcases (insRev_mem x r).1 hz with rfl | hz
      · omega
      · exact h1 z hz
    · rename_i c
      refine List.pairwise_cons.2 ⟨fun z hz => ?_, h⟩
      rcases List.mem_cons.1 hz with rfl | hz
      · omega
      · have := h1 z hz
        omega
theorem fold_desc : ∀ (l r : List Ge), Desc r → Desc (l.foldl insRev r)
  | [], _, h => h
  | x :: l, r, h => fold_desc l _ (insRev_desc x r h)
def Asc (l : List Ge) : Prop := l.Pairwise fun a b => a.1 ≤ b.1
theorem sort_asc (l : List Ge) : Asc (sortG l) := by
  unfold Asc sortG
  exact List.pairwise_reverse.2 (fold_desc l [] List.Pairwise.nil)
theorem asc_unique : ∀ (l m : List Ge), Asc l → Asc m → (∀ t : Int, l.filter (fun x => x.1 == t) = m.filter (fun x => x.1 == t)) → l = m
  | [], [], _, _, _ => rfl
  | [], b :: m, _, _, h => by
    have := h b.1
    rw [List.filter_cons, if_pos (by simp)] at this
    cases this
  | a :: l, [], _, _, h => by
    have := h a.1
    rw [List.filter_cons, if_pos (by simp)] at this
    cases this
  | a :: l, b :: m, hl, hm, h => by
    obtain ⟨l1, l2⟩ := List.pairwise_cons.1 hl
    obtain ⟨m1, m2⟩ := List.pairwise_cons.1 hm
    have ha : a ∈ b :: m := by
      have : a ∈ (a :: l).filter (fun x => x.1 == a.1) := List.mem_filter.2 ⟨List.mem_cons_self, by simp⟩
      rw [h a.1] at this
      exact (List.mem_filter.1 this).1
    have hb : b ∈ a :: l := by
      have : b ∈ (b :: m).filter (fun x => x.1 == b.1) := List.mem_filter.2 ⟨List.mem_cons_self, by simp⟩
      rw [← h b.1] at this
      exact (List.mem_filter.1 this).1
    have e : a.1 = b.1 := by
      rcases List.mem_cons.1 ha with rfl | ha
      · rfl
      · rcases List.mem_cons.1 hb with rfl | hb
        · rfl
        · have := m1 a ha
          have := l1 b hb
          omega
    have e2 := h a.1
    rw [List.filter_cons, if_pos (by simp), List.filter_cons, if_pos (by simp [e])] at e2
    obtain ⟨e3, e4⟩ := List.cons.inj e2
    subst e3
    congr 1
    refine asc_unique l m l2 m2 fun t => ?_
    by_cases c : a.1 = t
    · subst c; exact e4
    · have := h t
      rwa [List.filter_cons, if_neg (by simp [c]), List.filter_cons, if_neg (by simp [c])] at this
theorem asc_filter {l : List Ge} (p : Ge → Bool) (h : Asc l) : Asc (l.filter p) := List.Pairwise.filter p h
theorem sort_mem {l : List Ge} {z : Ge} : z ∈ sortG l ↔ z ∈ l := by
  have : ∀ (l r : List Ge), z ∈ l.foldl insRev r ↔ z ∈ l ∨ z ∈ r := by
    intro l
    induction l with
    | nil => intro r; simp
    | cons x l ih =>
      intro r
      rw [List.foldl_cons, ih, insRev_mem, List.mem_cons]
      constructor
      · rintro (h | h | h)
        · exact .inl (.inr h)
        · exact .inl (.inl h)
        · exact .inr h
      · rintro ((h | h) | h)
        · exact .inr (.inl h)
        · exact .inl h
        · exact .inr (.inr h)
  unfold sortG
  rw [List.mem_reverse, this]
  simp
end Go.Vm
/- Consent: what Await answers; ConsentOrder. -/
namespace Go.Vm

abbrev Rs := Bool × Bool × Int × Int
theorem jn_of13 {α ρ : Type} {m : Option (α ⊕ ρ)} {k : α → Option ρ} {R : Option ρ} {a : α} (h : m = some (.inl a)) (h2 : k a = R) : jn m k = R := by
  rw [h]; exact h2
def decS (f v : Bool) (x : Ge) : Bool × Bool × Int × Int × Bool :=
  if x.2 = 4 then (false, false, 0, 20, true) else
  if x.2 = 5 then (false, false, 0, 21, true) else
  if x.2 = 3 then (if v = true then (false, false, 0, 20, true) else (true, false, x.1, 0, !v)) else
  if x.2 = 2 then (if f = true then (true, true, x.1, 0, true) else (true, false, x.1, 0, !v)) else
  if x.2 = 1 then (true, false, x.1, 0, !v) else (false, false, 0, 0, false)
theorem nb {a b : Int} (h : ¬a = b) : ¬(bEq a b = true) := by rw [bEq_false h]; simp
theorem decide_eq (x : Ge) (f v : Bool) : sh_consent_decide (x, f, v) = some (decS f v x) := by
  unfold sh_consent_decide decS
  dsimp only
  simp only [bnd_eq]
  by_cases h4 : x.2 = 4
  · rw [if_pos (bEq_true h4), if_pos h4]; rfl
  rw [if_neg (nb h4), if_neg h4]
  by_cases h5 : x.2 = 5
  · rw [if_pos (bEq_true h5), if_pos h5]; rfl
  rw [if_neg (nb h5), if_neg h5]
  by_cases h3 : x.2 = 3
  · rw [if_pos (bEq_true h3), if_pos h3]
    cases v <;> rfl
  rw [if_neg (nb h3), if_neg h3]
  by_cases h2 : x.2 = 2
  · rw [if_pos (bEq_true h2), if_pos h2]
    cases f <;> rfl
  rw [if_neg (nb h2), if_neg h2]
  by_cases h1 : x.2 = 1
  · rw [if_pos (bEq_true h1), if_pos h1]; rfl
  rw [if_neg (nb h1), if_neg h1]
  rfl
def decR (f v : Bool) (x : Ge) : Option Rs := let d := decS f v x; if d.2.2.2.2 = true then some (d.1, d.2.1, d.2.2.1, d.2.2.2.1) else none
def inW (now : Int) (x : Ge) : Bool := decide (now < x.1 ∧ x.1 ≤ iMin (iAdd .i64 now 30) 1099511627776)
def pickR (now : Int) (f v : Bool) (x : Ge) : Option Rs := if inW now x = true then decR f v x else none
def resA (now : Int) (f v : Bool) (s : List Ge) : Rs := ((s.filter (inW now)).findSome? (decR f v)).getD (false, false, 0, 19)
theorem find_filter {β : Type} (p : Ge → Bool) (h : Ge → Option β) : ∀ s : List Ge, s.findSome? (fun x => if p x = true then h x else none) = (s.filter p).findSome? h
  | [] => rfl
  | x :: s => by
    rw [List.findSome?_cons, List.filter_cons]
    by_cases c : p x = true
    · rw [if_pos c, if_pos c, List.findSome?_cons, find_filter p h s]
    · rw [if_neg c, if_neg c, find_filter p h s]
theorem firstG_find {α β : Type} (s : List Ge) (h : Ge → Option β) (a : α) (g : Nat → Option (α ⊕ β)) (hg : ∀ i (hi : i < s.length), g i = (h s[i]).map Sum.inr) : ∀ n i, i + n = s.length → firstG g (.inl a) i n = match (s.drop i).findSome? h with | some r => .inr r | none => .inl a
  | 0, i, hi => by rw [List.drop_of_length_le (by omega)]; rfl
  | n + 1, i, hi => by
    rw [List.drop_eq_getElem_cons (by omega), List.findSome?_cons]
    simp only [firstG]
    rw [hg i (by omega)]
    cases h s[i] with
    | some r => rfl
    | none => exact firstG_find s h a g hg n (i + 1) (by omega)
def awaitS (now : Int) (f v : Bool) (l : List Ge) : Rs :=
  if bLt now 0 = true then (false, false, 0, 9) else if bGt now 1099511627776 = true then (false, false, 0, 9) else
  if v = true ∧ f = false then (false, false, 0, 23) else resA now f v (sortG l)
theorem Await_of (now : Int) (f v : Bool) (l : List Ge) (hl : l.length ≤ 1000) (hsort : sh_slices_SortStableFunc___passkey_api_Gesture_passkey_api_Gesture_ l = some (sortG l)) : sh_consent_Await (now, f, v, l) = some (awaitS now f v l) := by
  unfold sh_consent_Await awaitS
  dsimp only
  by_cases c1 : bLt now 0 = true
  · rw [if_pos c1, if_pos c1]; rfl
  rw [if_neg c1, if_neg c1]
  by_cases c2 : bGt now 1099511627776 = true
  · rw [if_pos c2, if_pos c2]; rfl
  rw [if_neg c2, if_neg c2, jn_inl]
  dsimp only
  by_cases c3 : v = true ∧ f = false
  · obtain ⟨rfl, rfl⟩ := c3
    rfl
  rw [if_neg c3]
  refine jn_of13 (a := ((0 : Int), now, f, v, l)) (by
    cases v
    · rfl
    · cases f
      · exact absurd ⟨rfl, rfl⟩ c3
      · rfl) ?_
  dsimp only
  have hC : sh_slices_Clone___passkey_api_Gesture_passkey_api_Gesture_ l = some l := by
    unfold sh_slices_Clone___passkey_api_Gesture_passkey_api_Gesture_
    rw [reqP_pos (by omega)]
  rw [hC, Option.bind_some, hsort, Option.bind_some]
  have hlen := sortG_len l
  generalize sortG l = s at hlen ⊢
  refine jn_first (fun i => ((0 : Int), s, now, f, v, (s.length : Int), (i : Int))) (fun i => ((pickR now f v (s.getD i (0, 0))).map Sum.inr)) (.inl 0) s.length rfl (fun i hi => ?_) (by dsimp only; rw [if_neg (by simp [bLt])]) ?_
  · dsimp only
    rw [if_pos (bLt_true (by omega)), reqP_pos (by omega), Int.toNat_natCast]
    generalize hx : s.getD i ((0 : Int), (0 : Int)) = x
    have nx : nextG ((pickR now f v x).map (Sum.inr (α := Int))) ((0 : Int), s, now, f, v, (s.length : Int), ((i + 1 : Nat) : Int)) = match pickR now f v x with | some r => .inr (.inr r) | none => .inl ((0 : Int), s, now, f, v, (s.length : Int), ((i + 1 : Nat) : Int)) := by
      cases pickR now f v x <;> rfl
    rw [nx, add_i64 (by omega)]
    unfold pickR inW
    by_cases d1 : bLe x.1 now = true
    · rw [if_pos d1, bnd_eq, jn_inr]
      have : x.1 ≤ now := by simpa [bLe] using d1
      rw [if_neg (by rw [decide_eq_false (by omega)]; simp)]
      rfl
    · rw [if_neg d1]
      have k1 : now < x.1 := by have := mt bLe_true d1; omega
      by_cases d2 : bGt x.1 (iMin (iAdd .i64 now 30) 1099511627776) = true
      · rw [if_pos d2, bnd_eq, jn_inr]
        have : iMin (iAdd .i64 now 30) 1099511627776 < x.1 := by simpa [bGt] using d2
        rw [if_neg (by rw [decide_eq_false (by omega)]; simp)]
        rfl
      · rw [if_neg d2, jn_inl]
        dsimp only
        have k2 : x.1 ≤ iMin (iAdd .i64 now 30) 1099511627776 := by have := mt bGt_true d2; omega
        rw [decide_eq, Option.bind_some, if_pos (decide_eq_true ⟨k1, k2⟩)]
        unfold decR
        dsimp only
        split
        · rfl
        · rw [bnd_eq, add_i64 (by omega)]
          rfl
  · rw [firstG_find s (pickR now f v) (0 : Int) _ (fun i hi => by rw [getD_get hi]) s.length 0 (by omega), List.drop_zero]
    unfold resA
    rw [← find_filter]
    unfold pickR
    cases s.findSome? (fun x => if inW now x = true then decR f v x else none) <;> rfl
theorem Await_eq (now : Int) (f v : Bool) (l : List Ge) (hl : l.length < 20) : sh_consent_Await (now, f, v, l) = some (awaitS now f v l) := Await_of now f v l (by omega) (SortStable_eq l hl)
theorem awake13_true : sh_passkeylaw13_awake () = some true := by
  unfold sh_passkeylaw13_awake
  rw [bnd_eq, Await_eq 10 false false _ (by decide), Option.bind_some, bnd_eq, Await_eq 10 false false _ (by decide), Option.bind_some, Await_eq 10 false true [] (by decide), Option.bind_some]
  decide
end Go.Vm
/- Consent: ConsentOrder. -/
namespace Go.Vm

theorem good_u16 {n : Int} : (Ty.int .u16).Good n ↔ (0 ≤ n ∧ n ≤ 65535) := by simp [Ty.Good, Lit.wf, IntKind.min, IntKind.max, IntKind.signed, IntKind.bits]
theorem same_rs (r : Rs) : ((bIff r.1 r.1) && ((bIff r.2.1 r.2.1) && ((bEq r.2.2.1 r.2.2.1) && true))) = true := by simp [bIff]
end Go.Vm
/- Consent: ConsentWindow, ConsentVerified. -/
namespace Go.Vm

def gesM (now : Int) (l : List Int) (i : Nat) : Ge :=
  (iSub .i64 (iAdd .i64 now (iConv .i64 (iAnd .u16 (l.getD i 0) 63))) 10, iSub .i64 (iConv .i64 (iAnd .u16 (iShr .u16 (l.getD i 0) 6) 15)) 1)
def madeS (now : Int) (l : List Int) : List Ge := (List.range (min l.length 8)).map (gesM now l)
theorem made_len (now : Int) (l : List Int) : (madeS now l).length ≤ 8 := by simp [madeS]; omega
theorem made_eq (now : Int) (l : List Int) : sh_passkeylaw13_made (now, l) = some (madeS now l) := by
  unfold sh_passkeylaw13_made madeS
  dsimp only
  generalize hn : min l.length 8 = n
  refine jn_count (fun i => ((List.range i).map (gesM now l), now, l, (i : Int))) n ((List.range n).map (gesM now l)) rfl (fun i hi => ?_) ?_ rfl
  · dsimp only
    have hget : l[i]? = some (l.getD i 0) := by
      rw [List.getElem?_eq_getElem (by omega), getD_get (by omega)]
    rw [if_pos (bLt_true (by omega)), if_pos (bLt_true (by omega)), jn_inl]
    dsimp only
    have q : ∀ y : Ge, (((List.range i).map (gesM now l)).length + ((List.replicate 1 ((0 : Int), (0 : Int))).set 0 y).length) * 16 ≤ 140737488355328 := fun y => by simp; omega
    rw [atL_nat hget, atL_nat hget, bnd_eq, reqP_pos (q _), bnd_eq, bnd_eq, add_i64 (a := (i : Int)) (by omega), range_map_snoc]
    rfl
  · dsimp only
    by_cases c : (n : Int) < (l.length : Int)
    · rw [if_pos (bLt_true c), if_neg (by rw [bLt_false (by omega)]; simp), jn_inr]
    · rw [if_neg (by rw [bLt_false (by omega)]; simp), jn_inr]

end Go.Vm
/- Consent: ConsentWindow. -/
namespace Go.Vm

end Go.Vm
/- Consent: exchange of two blocks, rotation. -/
namespace Go.Vm

theorem swapRange_eq (X U W V Y : List Ge) (huv : U.length = V.length) (hl : X.length + U.length + W.length + V.length + Y.length ≤ 100000) :
    sh_slices_swapRangeCmpFunc_passkey_api_Gesture_ (X ++ (U ++ (W ++ (V ++ Y))), (X.length : Int), ((X.length + U.length + W.length : Nat) : Int), (U.length : Int)) = some (X ++ (V ++ (W ++ (U ++ Y)))) := by
  unfold sh_slices_swapRangeCmpFunc_passkey_api_Gesture_
  dsimp only
  have hst : ∀ i, i ≤ U.length → (X ++ (V.take i ++ (U.drop i ++ (W ++ (U.take i ++ (V.drop i ++ Y)))))).length = X.length + U.length + W.length + V.length + Y.length := fun i hi => by
    simp only [List.length_append, List.length_take, List.length_drop]; omega
  refine jn_count (fun i => (X ++ (V.take i ++ (U.drop i ++ (W ++ (U.take i ++ (V.drop i ++ Y))))), (X.length : Int), ((X.length + U.length + W.length : Nat) : Int), (U.length : Int), (i : Int))) U.length (X ++ (V ++ (W ++ (U ++ Y)))) (by simp) (fun i hi => ?_) (by
      dsimp only
      rw [if_neg (by simp [bLt])]
      rw [List.drop_length, List.take_length, huv, List.take_length, List.drop_length]
      simp) (by rw [reqP_pos (by simp only [List.length_append]; omega)])
  dsimp only
  have hL := hst i (by omega)
  have hV : i < V.length := by omega
  have e1 : iAdd .i64 ((X.length + U.length + W.length : Nat) : Int) (i : Int) = ((X.length + U.length + W.length + i : Nat) : Int) := by rw [add_i64 (by omega)]; omega
  have e2 : iAdd .i64 (X.length : Int) (i : Int) = ((X.length + i : Nat) : Int) := by rw [add_i64 (by omega)]; omega
  -- the list around the two places
  have f1 : X ++ (V.take i ++ (U.drop i ++ (W ++ (U.take i ++ (V.drop i ++ Y))))) = (X ++ V.take i) ++ U[i] :: (U.drop (i + 1) ++ (W ++ (U.take i ++ (V.drop i ++ Y)))) := by
    rw [List.drop_eq_getElem_cons hi]; simp only [List.append_assoc, List.cons_append]
  have f2 : ∀ z : Ge, (X ++ V.take i) ++ z :: (U.drop (i + 1) ++ (W ++ (U.take i ++ (V.drop i ++ Y)))) = (X ++ V.take i ++ z :: (U.drop (i + 1) ++ (W ++ U.take i))) ++ V[i] :: (V.drop (i + 1) ++ Y) := fun z => by
    rw [List.drop_eq_getElem_cons hV]; simp only [List.append_assoc, List.cons_append]
  have n1 : X.length + i = (X ++ V.take i).length := by simp only [List.length_append, List.length_take]; omega
  have n2 : ∀ z : Ge, X.length + U.length + W.length + i = (X ++ V.take i ++ z :: (U.drop (i + 1) ++ (W ++ U.take i))).length := fun z => by
    simp only [List.length_append, List.length_cons, List.length_take, List.length_drop]; omega
  have g1 : (X ++ (V.take i ++ (U.drop i ++ (W ++ (U.take i ++ (V.drop i ++ Y)))))).getD (X.length + i) ((0 : Int), (0 : Int)) = U[i] := by rw [f1]; exact get_mid n1
  have g2 : (X ++ (V.take i ++ (U.drop i ++ (W ++ (U.take i ++ (V.drop i ++ Y)))))).getD (X.length + U.length + W.length + i) ((0 : Int), (0 : Int)) = V[i] := by rw [f1, f2]; exact get_mid (n2 _)
  rw [if_pos (bLt_true (by omega)), e1, e2, Int.toNat_natCast, Int.toNat_natCast, g1, g2, reqP_pos (by rw [hL]; omega), reqP_pos (by rw [hL]; omega), reqP_pos (by rw [hL]; omega), bnd_eq, reqP_pos (by rw [List.length_set, hL]; omega), bnd_eq, bnd_eq, add_i64 (by omega)]
  have hs : ((X ++ (V.take i ++ (U.drop i ++ (W ++ (U.take i ++ (V.drop i ++ Y)))))).set (X.length + i) (V[i].1, V[i].2)).set (X.length + U.length + W.length + i) (U[i].1, U[i].2) = X ++ (V.take (i + 1) ++ (U.drop (i + 1) ++ (W ++ (U.take (i + 1) ++ (V.drop (i + 1) ++ Y))))) := by
    rw [f1, set_mid n1, f2, set_mid (n2 _), List.take_succ_eq_append_getElem hi, List.take_succ_eq_append_getElem hV]
    simp only [List.append_assoc, List.cons_append, List.nil_append]
  rw [hs]
  rfl

/-- One round of the rotation. -/
noncomputable def rotF (s2 : (List (Int × Int)) × Int × Int × Int) : Option (((List (Int × Int)) × Int × Int × Int) ⊕ (((List (Int × Int)) × Int × Int) ⊕ (List (Int × Int)))) :=
  if (bNe s2.2.2.1 s2.2.2.2) then
    if (bGt s2.2.2.1 s2.2.2.2) then
      Option.bind (sh_slices_swapRangeCmpFunc_passkey_api_Gesture_ (s2.1, (iSub .i64 s2.2.1 s2.2.2.1), s2.2.1, s2.2.2.2)) fun r4 =>
      bnd (iSub .i64 s2.2.2.1 s2.2.2.2) fun b5 =>
      some (.inl (r4, s2.2.1, b5, s2.2.2.2))
    else
      Option.bind (sh_slices_swapRangeCmpFunc_passkey_api_Gesture_ (s2.1, (iSub .i64 s2.2.1 s2.2.2.1), (iSub .i64 (iAdd .i64 s2.2.1 s2.2.2.2) s2.2.2.1), s2.2.2.1)) fun r6 =>
      bnd (iSub .i64 s2.2.2.2 s2.2.2.1) fun b7 =>
      some (.inl (r6, s2.2.1, s2.2.2.1, b7))
  else
    some (.inr (.inl (s2.1, s2.2.1, s2.2.2.1)))
  
theorem rot_eq : ∀ (n : Nat) (X U V Y : List Ge), U.length + V.length ≤ n → 0 < U.length → 0 < V.length → X.length + U.length + V.length + Y.length ≤ 100000 →
    ∃ (s : List Ge) (i : Nat), loopLim rotF (X ++ (U ++ (V ++ Y)), ((X.length + U.length : Nat) : Int), (U.length : Int), (V.length : Int)) = some (.inl (s, ((X.length + U.length : Nat) : Int), (i : Int))) ∧
      sh_slices_swapRangeCmpFunc_passkey_api_Gesture_ (s, iSub .i64 ((X.length + U.length : Nat) : Int) (i : Int), ((X.length + U.length : Nat) : Int), (i : Int)) = some (X ++ (V ++ (U ++ Y)))
  | 0, X, U, V, Y, h, hU, hV, hl => by omega
  | n + 1, X, U, V, Y, h, hU, hV, hl => by
    have hm : iSub .i64 ((X.length + U.length : Nat) : Int) (U.length : Int) = (X.length : Int) := by rw [sub_i64 (by omega)]; omega
    by_cases c : U.length = V.length
    · refine ⟨X ++ (U ++ (V ++ Y)), U.length, loopLim_end ?_, ?_⟩
      · unfold rotF
        dsimp only
        rw [if_neg (by rw [bNe_false (by omega)]; simp)]
      · rw [hm]
        exact swapRange_eq X U [] V Y c (by simp only [List.length_nil]; omega)
    · by_cases d : V.length < U.length
      · -- the first part of U against V
        have hu1 : (U.take V.length).length = V.length := by rw [List.length_take]; omega
        have hu2 : (U.drop V.length).length = U.length - V.length := List.length_drop
        have hs := swapRange_eq X (U.take V.length) (U.drop V.length) V Y (by omega) (by omega)
        have e1 : X ++ (U.take V.length ++ (U.drop V.length ++ (V ++ Y))) = X ++ (U ++ (V ++ Y)) := by
          rw [← List.append_assoc (U.take V.length), List.take_append_drop]
        rw [e1, show X.length + (U.take V.length).length + (U.drop V.length).length = X.length + U.length from by omega, hu1] at hs
        obtain ⟨s, i, g1, g2⟩ := rot_eq n (X ++ V) (U.drop V.length) (U.take V.length) Y (by omega) (by omega) (by omega) (by rw [List.length_append]; omega)
        have hn : (X ++ V).length + (U.drop V.length).length = X.length + U.length := by rw [List.length_append]; omega
        rw [hn] at g1 g2
        have step : rotF (X ++ (U ++ (V ++ Y)), ((X.length + U.length : Nat) : Int), (U.length : Int), (V.length : Int)) = some (.inl ((X ++ V) ++ (U.drop V.length ++ (U.take V.length ++ Y)), ((X.length + U.length : Nat) : Int), ((U.drop V.length).length : Int), ((U.take V.length).length : Int))) := by
          unfold rotF
          dsimp only
          rw [if_pos (bNe_true (by omega)), if_pos (bGt_true (by omega)), hm, hs, Option.bind_some, bnd_eq, sub_i64 (by omega), hu1, hu2, List.append_assoc]
          rw [show ((U.length - V.length : Nat) : Int) = (U.length : Int) - (V.length : Int) from by omega]
        refine ⟨s, i, (loopLim_next step).trans g1, ?_⟩
        rw [g2, List.append_assoc, ← List.append_assoc (U.take V.length), List.take_append_drop]
      · -- U against the last part of V
        have k : U.length < V.length := by omega
        have hv1 : (V.take (V.length - U.length)).length = V.length - U.length := by rw [List.length_take]; omega
        have hv2 : (V.drop (V.length - U.length)).length = U.length := by rw [List.length_drop]; omega
        have hs := swapRange_eq X U (V.take (V.length - U.length)) (V.drop (V.length - U.length)) Y (by omega) (by omega)
        have e1 : V.take (V.length - U.length) ++ (V.drop (V.length - U.length) ++ Y) = V ++ Y := by
          rw [← List.append_assoc, List.take_append_drop]
        rw [e1] at hs
        obtain ⟨s, i, g1, g2⟩ := rot_eq n X (V.drop (V.length - U.length)) (V.take (V.length - U.length)) (U ++ Y) (by omega) (by omega) (by omega) (by rw [List.length_append]; omega)
        rw [hv2] at g1 g2
        have ee : iSub .i64 (iAdd .i64 ((X.length + U.length : Nat) : Int) (V.length : Int)) (U.length : Int) = ((X.length + U.length + (V.take (V.length - U.length)).length : Nat) : Int) := by
          rw [add_i64 (by omega), sub_i64 (by omega)]; omega
        have step : rotF (X ++ (U ++ (V ++ Y)), ((X.length + U.length : Nat) : Int), (U.length : Int), (V.length : Int)) = some (.inl (X ++ (V.drop (V.length - U.length) ++ (V.take (V.length - U.length) ++ (U ++ Y))), ((X.length + U.length : Nat) : Int), (U.length : Int), ((V.take (V.length - U.length)).length : Int))) := by
          unfold rotF
          dsimp only
          rw [if_pos (bNe_true (by omega)), if_neg (by rw [bGt_false (by omega)]; simp), hm, ee, hs, Option.bind_some, bnd_eq, sub_i64 (by omega), hv1]
          rw [show ((V.length - U.length : Nat) : Int) = (V.length : Int) - (U.length : Int) from by omega]
        refine ⟨s, i, (loopLim_next step).trans g1, ?_⟩
        rw [g2, ← List.append_assoc (V.take (V.length - U.length)), List.take_append_drop]
theorem rotate_eq (X U V Y : List Ge) (hU : 0 < U.length) (hV : 0 < V.length) (hl : X.length + U.length + V.length + Y.length ≤ 100000) :
    sh_slices_rotateCmpFunc_passkey_api_Gesture_ (X ++ (U ++ (V ++ Y)), (X.length : Int), ((X.length + U.length : Nat) : Int), ((X.length + U.length + V.length : Nat) : Int)) = some (X ++ (V ++ (U ++ Y))) := by
  obtain ⟨s, i, g1, g2⟩ := rot_eq (U.length + V.length) X U V Y (Nat.le_refl _) hU hV hl
  unfold sh_slices_rotateCmpFunc_passkey_api_Gesture_
  dsimp only
  have e1 : iSub .i64 ((X.length + U.length : Nat) : Int) (X.length : Int) = (U.length : Int) := by rw [sub_i64 (by omega)]; omega
  have e2 : iSub .i64 ((X.length + U.length + V.length : Nat) : Int) ((X.length + U.length : Nat) : Int) = (V.length : Int) := by rw [sub_i64 (by omega)]; omega
  rw [e1, e2, bnd_eq, bnd_eq]
  refine Eq.trans (b := jn (loopLim rotF (X ++ (U ++ (V ++ Y)), ((X.length + U.length : Nat) : Int), (U.length : Int), (V.length : Int))) fun j3 =>
    Option.bind (sh_slices_swapRangeCmpFunc_passkey_api_Gesture_ (j3.1, (iSub .i64 j3.2.1 j3.2.2), j3.2.1, j3.2.2)) fun r8 =>
    reqP ((X ++ (U ++ (V ++ Y))).length = r8.length) <| some r8) rfl ?_
  rw [g1, jn_inl]
  dsimp only
  rw [g2, Option.bind_some, reqP_pos (by simp only [List.length_append]; omega)]
end Go.Vm
/- Consent: the rounds of the merge; search by halves. -/
namespace Go.Vm

def bs1F (s0 : ((List (Int × Int)) × Int × Int × Int)) : Option ((((List (Int × Int)) × Int × Int × Int)) ⊕ (((List (Int × Int)) × Int × Int) ⊕ (List (Int × Int)))) :=
  if (bLt s0.2.2.1 s0.2.2.2) then
    bnd (iConv .i64 (iShr .u64 (iConv .u64 (iAdd .i64 s0.2.2.1 s0.2.2.2)) (1 : Int))) fun b2 =>
    reqP (0 ≤ b2 ∧ b2 < (s0.1.length : Int)) <|
    reqP (0 ≤ s0.2.1 ∧ s0.2.1 < (s0.1.length : Int)) <|
    Option.bind (sh_consent_Await_1 (((s0.1.getD b2.toNat ((0 : Int), (0 : Int))).1, (s0.1.getD b2.toNat ((0 : Int), (0 : Int))).2), ((s0.1.getD s0.2.1.toNat ((0 : Int), (0 : Int))).1, (s0.1.getD s0.2.1.toNat ((0 : Int), (0 : Int))).2))) fun r3 =>
    if (bLt r3 (0 : Int)) then
      bnd (iAdd .i64 b2 (1 : Int)) fun b4 =>
      some (.inl (s0.1, s0.2.1, b4, s0.2.2.2))
    else
      some (.inl (s0.1, s0.2.1, s0.2.2.1, b2))
  else
    some (.inr (.inl (s0.1, s0.2.1, s0.2.2.1)))
def mv1F (s5 : ((List (Int × Int)) × Int × Int)) : Option ((((List (Int × Int)) × Int × Int)) ⊕ ((List (Int × Int)) ⊕ (List (Int × Int)))) :=
  if (bLt s5.2.2 (iSub .i64 s5.2.1 (1 : Int))) then
    reqP (0 ≤ (iAdd .i64 s5.2.2 (1 : Int)) ∧ (iAdd .i64 s5.2.2 (1 : Int)) < (s5.1.length : Int)) <|
    reqP (0 ≤ s5.2.2 ∧ s5.2.2 < (s5.1.length : Int)) <|
    reqP (0 ≤ s5.2.2 ∧ s5.2.2 < (s5.1.length : Int)) <|
    bnd (s5.1.set s5.2.2.toNat ((s5.1.getD (iAdd .i64 s5.2.2 (1 : Int)).toNat ((0 : Int), (0 : Int))).1, (s5.1.getD (iAdd .i64 s5.2.2 (1 : Int)).toNat ((0 : Int), (0 : Int))).2)) fun b7 =>
    reqP (0 ≤ (iAdd .i64 s5.2.2 (1 : Int)) ∧ (iAdd .i64 s5.2.2 (1 : Int)) < (b7.length : Int)) <|
    bnd (b7.set (iAdd .i64 s5.2.2 (1 : Int)).toNat ((s5.1.getD s5.2.2.toNat ((0 : Int), (0 : Int))).1, (s5.1.getD s5.2.2.toNat ((0 : Int), (0 : Int))).2)) fun b8 =>
    bnd (iAdd .i64 s5.2.2 (1 : Int)) fun b9 =>
    some (.inl (b8, s5.2.1, b9))
  else
    some (.inr (.inl s5.1))
def bs2F (s10 : ((List (Int × Int)) × Int × Int × Int)) : Option ((((List (Int × Int)) × Int × Int × Int)) ⊕ (((List (Int × Int)) × Int × Int) ⊕ (List (Int × Int)))) :=
  if (bLt s10.2.2.1 s10.2.2.2) then
    bnd (iConv .i64 (iShr .u64 (iConv .u64 (iAdd .i64 s10.2.2.1 s10.2.2.2)) (1 : Int))) fun b12 =>
    reqP (0 ≤ s10.2.1 ∧ s10.2.1 < (s10.1.length : Int)) <|
    reqP (0 ≤ b12 ∧ b12 < (s10.1.length : Int)) <|
    Option.bind (sh_consent_Await_1 (((s10.1.getD s10.2.1.toNat ((0 : Int), (0 : Int))).1, (s10.1.getD s10.2.1.toNat ((0 : Int), (0 : Int))).2), ((s10.1.getD b12.toNat ((0 : Int), (0 : Int))).1, (s10.1.getD b12.toNat ((0 : Int), (0 : Int))).2))) fun r13 =>
    if (!(bLt r13 (0 : Int))) then
      bnd (iAdd .i64 b12 (1 : Int)) fun b14 =>
      some (.inl (s10.1, s10.2.1, b14, s10.2.2.2))
    else
      some (.inl (s10.1, s10.2.1, s10.2.2.1, b12))
  else
    some (.inr (.inl (s10.1, s10.2.1, s10.2.2.1)))
def mv2F (s15 : ((List (Int × Int)) × Int × Int)) : Option ((((List (Int × Int)) × Int × Int)) ⊕ ((List (Int × Int)) ⊕ (List (Int × Int)))) :=
  if (bGt s15.2.2 s15.2.1) then
    reqP (0 ≤ (iSub .i64 s15.2.2 (1 : Int)) ∧ (iSub .i64 s15.2.2 (1 : Int)) < (s15.1.length : Int)) <|
    reqP (0 ≤ s15.2.2 ∧ s15.2.2 < (s15.1.length : Int)) <|
    reqP (0 ≤ s15.2.2 ∧ s15.2.2 < (s15.1.length : Int)) <|
    bnd (s15.1.set s15.2.2.toNat ((s15.1.getD (iSub .i64 s15.2.2 (1 : Int)).toNat ((0 : Int), (0 : Int))).1, (s15.1.getD (iSub .i64 s15.2.2 (1 : Int)).toNat ((0 : Int), (0 : Int))).2)) fun b17 =>
    reqP (0 ≤ (iSub .i64 s15.2.2 (1 : Int)) ∧ (iSub .i64 s15.2.2 (1 : Int)) < (b17.length : Int)) <|
    bnd (b17.set (iSub .i64 s15.2.2 (1 : Int)).toNat ((s15.1.getD s15.2.2.toNat ((0 : Int), (0 : Int))).1, (s15.1.getD s15.2.2.toNat ((0 : Int), (0 : Int))).2)) fun b18 =>
    bnd (iSub .i64 s15.2.2 (1 : Int)) fun b19 =>
    some (.inl (b18, s15.2.1, b19))
  else
    some (.inr (.inl s15.1))
def bs3F (s25 : ((List (Int × Int)) × Int × Int × Int × Int × Int × Int × Int × Int)) : Option ((((List (Int × Int)) × Int × Int × Int × Int × Int × Int × Int × Int)) ⊕ (((List (Int × Int)) × Int × Int × Int × Int × Int × Int) ⊕ (List (Int × Int)))) :=
  if (bLt s25.2.2.2.2.2.2.1 s25.2.2.2.2.2.2.2.1) then
    bnd (iConv .i64 (iShr .u64 (iConv .u64 (iAdd .i64 s25.2.2.2.2.2.2.1 s25.2.2.2.2.2.2.2.1)) (1 : Int))) fun b27 =>
    reqP (0 ≤ (iSub .i64 s25.2.2.2.2.2.2.2.2 b27) ∧ (iSub .i64 s25.2.2.2.2.2.2.2.2 b27) < (s25.1.length : Int)) <|
    reqP (0 ≤ b27 ∧ b27 < (s25.1.length : Int)) <|
    Option.bind (sh_consent_Await_1 (((s25.1.getD (iSub .i64 s25.2.2.2.2.2.2.2.2 b27).toNat ((0 : Int), (0 : Int))).1, (s25.1.getD (iSub .i64 s25.2.2.2.2.2.2.2.2 b27).toNat ((0 : Int), (0 : Int))).2), ((s25.1.getD b27.toNat ((0 : Int), (0 : Int))).1, (s25.1.getD b27.toNat ((0 : Int), (0 : Int))).2))) fun r28 =>
    if (!(bLt r28 (0 : Int))) then
      bnd (iAdd .i64 b27 (1 : Int)) fun b29 =>
      some (.inl (s25.1, s25.2.1, s25.2.2.1, s25.2.2.2.1, s25.2.2.2.2.1, s25.2.2.2.2.2.1, b29, s25.2.2.2.2.2.2.2.1, s25.2.2.2.2.2.2.2.2))
    else
      some (.inl (s25.1, s25.2.1, s25.2.2.1, s25.2.2.2.1, s25.2.2.2.2.1, s25.2.2.2.2.2.1, s25.2.2.2.2.2.2.1, b27, s25.2.2.2.2.2.2.2.2))
  else
    some (.inr (.inl (s25.1, s25.2.1, s25.2.2.1, s25.2.2.2.1, s25.2.2.2.2.1, s25.2.2.2.2.2.1, s25.2.2.2.2.2.2.1)))

theorem half_eq (i j : Nat) (h : i + j ≤ 1000000) : iConv .i64 (iShr .u64 (iConv .u64 (iAdd .i64 (i : Int) (j : Int))) 1) = (((i + j) / 2 : Nat) : Int) := by
  have e := shr_eq .u64 ((i : Int) + (j : Int)) 1 (by decide)
  rw [show ((1 : Nat) : Int) = 1 from rfl, show (2 : Int) ^ 1 = 2 from rfl] at e
  rw [add_i64 (by omega), conv_u64_id (by omega), e, conv_i64 (by omega)]
  omega
theorem bsearch {σ α : Type} {f : σ → Option (σ ⊕ α)} (st : Nat → Nat → σ) (fin : Nat → α) (Q : Nat → Bool) (lo hi : Nat)
    (mono : ∀ c d, lo ≤ c → c ≤ d → d < hi → Q c = true → Q d = true)
    (step : ∀ i j, lo ≤ i → i < j → j ≤ hi → f (st i j) = some (.inl (if Q ((i + j) / 2) = true then st i ((i + j) / 2) else st ((i + j) / 2 + 1) j)))
    (done : ∀ i, lo ≤ i → i ≤ hi → f (st i i) = some (.inr (fin i))) :
    ∀ n i j, j - i ≤ n → lo ≤ i → i ≤ j → j ≤ hi → (∀ c, lo ≤ c → c < i → Q c = false) → (∀ c, j ≤ c → c < hi → Q c = true) →
      ∃ k, lo ≤ k ∧ k ≤ hi ∧ loopLim f (st i j) = some (fin k) ∧ (∀ c, lo ≤ c → c < k → Q c = false) ∧ (∀ c, k ≤ c → c < hi → Q c = true) := by
  intro n
  induction n with
  | zero =>
    intro i j h1 h2 h3 h4 h5 h6
    have : i = j := by omega
    subst this
    exact ⟨i, h2, h4, loopLim_end (done i h2 h4), h5, h6⟩
  | succ n ih =>
    intro i j h1 h2 h3 h4 h5 h6
    by_cases c : i = j
    · subst c
      exact ⟨i, h2, h4, loopLim_end (done i h2 h4), h5, h6⟩
    · have s := step i j h2 (by omega) h4
      by_cases q : Q ((i + j) / 2) = true
      · rw [if_pos q] at s
        rw [loopLim_next s]
        exact ih i ((i + j) / 2) (by omega) h2 (by omega) (by omega) h5 (fun c hc hh => by
          by_cases d : j ≤ c
          · exact h6 c d hh
          · exact mono _ c (by omega) hc hh q)
      · rw [if_neg q] at s
        rw [loopLim_next s]
        have q : Q ((i + j) / 2) = false := by simpa using q
        refine ih ((i + j) / 2 + 1) j (by omega) (by omega) (by omega) h4 (fun c hc hh => ?_) h6
        by_cases e : Q c = true
        · have := mono c ((i + j) / 2) hc (by omega) (by omega) e
          rw [q] at this; cases this
        · simpa using e
theorem asc_get {l : List Ge} (h : Asc l) {i j : Nat} (hij : i ≤ j) (hj : j < l.length) {d : Ge} : (l.getD i d).1 ≤ (l.getD j d).1 := by
  rw [getD_get hj, getD_get (show i < l.length by omega)]
  by_cases c : i = j
  · subst c; omega
  · exact List.pairwise_iff_getElem.1 h i j (by omega) hj (by omega)
theorem part_get {X A R : List Ge} {c : Nat} {d : Ge} (h : c < A.length) : (X ++ (A ++ R)).getD (X.length + c) d = A.getD c d := by
  rw [List.getD_eq_getElem?_getD, List.getElem?_append_right (by omega), Nat.add_sub_cancel_left, List.getElem?_append_left h, List.getD_eq_getElem?_getD]
theorem part_get2 {X A B R : List Ge} {c : Nat} {d : Ge} (h : c < B.length) : (X ++ (A ++ (B ++ R))).getD (X.length + A.length + c) d = B.getD c d := by
  have := part_get (X := X ++ A) (A := B) (R := R) (d := d) h
  rwa [List.append_assoc, List.length_append] at this
theorem take_get {l : List Ge} {n : Nat} {x d : Ge} (h : x ∈ l.take n) : ∃ i, i < n ∧ i < l.length ∧ l.getD i d = x := by
  obtain ⟨i, hi, e⟩ := List.getElem_of_mem h
  rw [List.length_take] at hi
  rw [List.getElem_take] at e
  exact ⟨i, by omega, by omega, by rw [getD_get (by omega), e]⟩
theorem drop_get {l : List Ge} {n : Nat} {x d : Ge} (h : x ∈ l.drop n) : ∃ i, n ≤ i ∧ i < l.length ∧ l.getD i d = x := by
  obtain ⟨i, hi, e⟩ := List.getElem_of_mem h
  rw [List.length_drop] at hi
  rw [List.getElem_drop] at e
  exact ⟨n + i, by omega, by omega, by rw [getD_get (by omega), e]⟩
theorem sort_id {l : List Ge} (h : Asc l) : sortG l = l := asc_unique _ _ (sort_asc l) h fun t => sort_filter t l
theorem sort_split {A1 A2 B1 B2 : List Ge} (h1 : ∀ x ∈ A1, ∀ y ∈ B2, x.1 ≤ y.1) (h2 : ∀ y ∈ B1, ∀ x ∈ A2, y.1 < x.1) (hA : Asc (A1 ++ A2)) (hB : Asc (B1 ++ B2)) :
    sortG ((A1 ++ A2) ++ (B1 ++ B2)) = sortG (A1 ++ B1) ++ sortG (A2 ++ B2) := by
  obtain ⟨_, _, a3⟩ := List.pairwise_append.1 hA
  obtain ⟨_, _, b3⟩ := List.pairwise_append.1 hB
  refine asc_unique _ _ (sort_asc _) (List.pairwise_append.2 ⟨sort_asc _, sort_asc _, fun u hu v hv => ?_⟩) fun t => ?_
  · rcases List.mem_append.1 (sort_mem.1 hu) with hu | hu <;> rcases List.mem_append.1 (sort_mem.1 hv) with hv | hv
    · exact a3 u hu v hv
    · exact h1 u hu v hv
    · have := h2 u hu v hv; omega
    · exact b3 u hu v hv
  · rw [sort_filter, List.filter_append (sortG _), sort_filter, sort_filter]
    simp only [List.filter_append, List.append_assoc]
    congr 1
    rw [← List.append_assoc, ← List.append_assoc]
    congr 1
    cases e1 : A2.filter (fun x => x.1 == t) with
    | nil => simp
    | cons x l =>
      cases e2 : B1.filter (fun x => x.1 == t) with
      | nil => simp
      | cons y m =>
        have hx : x ∈ A2.filter (fun x => x.1 == t) := by rw [e1]; exact List.mem_cons_self
        have hy : y ∈ B1.filter (fun x => x.1 == t) := by rw [e2]; exact List.mem_cons_self
        obtain ⟨x1, x2⟩ := List.mem_filter.1 hx
        obtain ⟨y1, y2⟩ := List.mem_filter.1 hy
        have x2 : x.1 = t := by simpa using x2
        have y2 : y.1 = t := by simpa using y2
        have := h2 y y1 x x1
        omega
end Go.Vm
/- Consent: the loops of the merge. -/
namespace Go.Vm

theorem cmp_lt (x y : Int) : bLt (cmpG x y) 0 = decide (x < y) := by
  unfold cmpG
  by_cases h : x < y
  · rw [if_pos h, decide_eq_true h]; rfl
  · rw [if_neg h, decide_eq_false h]
    split <;> rfl
def zG : Ge := (0, 0)
theorem bs1_step (D : List Ge) (a i j : Nat) (ha : a < D.length) (hij : i < j) (hj : j ≤ D.length) (hD : D.length ≤ 100000) :
    bs1F (D, (a : Int), (i : Int), (j : Int)) = some (.inl (if (!decide ((D.getD ((i + j) / 2) zG).1 < (D.getD a zG).1)) = true then (D, (a : Int), (i : Int), (((i + j) / 2 : Nat) : Int)) else (D, (a : Int), (((i + j) / 2 + 1 : Nat) : Int), (j : Int)))) := by
  unfold bs1F
  dsimp only
  rw [if_pos (bLt_true (by omega)), half_eq i j (by omega), bnd_eq, reqP_pos (by omega), reqP_pos (by omega), Int.toNat_natCast, Int.toNat_natCast, Await1_eq, Option.bind_some, cmp_lt]
  show (if decide ((D.getD ((i + j) / 2) zG).1 < (D.getD a zG).1) = true then _ else _) = _
  cases decide ((D.getD ((i + j) / 2) zG).1 < (D.getD a zG).1) with
  | true =>
    rw [if_pos rfl, if_neg (by simp), bnd_eq, add_i64 (by omega)]
    rfl
  | false => rfl
theorem bs2_step (D : List Ge) (a i j : Nat) (ha : a < D.length) (hij : i < j) (hj : j ≤ D.length) (hD : D.length ≤ 100000) :
    bs2F (D, (a : Int), (i : Int), (j : Int)) = some (.inl (if (decide ((D.getD a zG).1 < (D.getD ((i + j) / 2) zG).1)) = true then (D, (a : Int), (i : Int), (((i + j) / 2 : Nat) : Int)) else (D, (a : Int), (((i + j) / 2 + 1 : Nat) : Int), (j : Int)))) := by
  unfold bs2F
  dsimp only
  rw [if_pos (bLt_true (by omega)), half_eq i j (by omega), bnd_eq, reqP_pos (by omega), reqP_pos (by omega), Int.toNat_natCast, Int.toNat_natCast, Await1_eq, Option.bind_some, cmp_lt]
  show (if (!decide ((D.getD a zG).1 < (D.getD ((i + j) / 2) zG).1)) = true then _ else _) = _
  cases decide ((D.getD a zG).1 < (D.getD ((i + j) / 2) zG).1) with
  | false =>
    rw [if_pos (show (!false) = true from rfl), if_neg (by simp), bnd_eq, add_i64 (by omega)]
    rfl
  | true => rfl
theorem bs3_step (D : List Ge) (a m b mid n : Int) (i j p : Nat) (hij : i < j) (hp : ∀ c, i ≤ c → c < j → c ≤ p ∧ p - c < D.length) (hj : j ≤ D.length) (hD : D.length ≤ 100000) :
    bs3F (D, a, m, b, mid, n, (i : Int), (j : Int), (p : Int)) = some (.inl (if (decide ((D.getD (p - (i + j) / 2) zG).1 < (D.getD ((i + j) / 2) zG).1)) = true then (D, a, m, b, mid, n, (i : Int), (((i + j) / 2 : Nat) : Int), (p : Int)) else (D, a, m, b, mid, n, (((i + j) / 2 + 1 : Nat) : Int), (j : Int), (p : Int)))) := by
  obtain ⟨h1, h2⟩ := hp ((i + j) / 2) (by omega) (by omega)
  by_cases hpp : p ≤ 1000000
  · have e : iSub .i64 (p : Int) (((i + j) / 2 : Nat) : Int) = ((p - (i + j) / 2 : Nat) : Int) := by rw [sub_i64 (by omega)]; omega
    unfold bs3F
    dsimp only
    rw [if_pos (bLt_true (by omega)), half_eq i j (by omega), bnd_eq, e, reqP_pos (by omega), reqP_pos (by omega), Int.toNat_natCast, Int.toNat_natCast, Await1_eq, Option.bind_some, cmp_lt]
    show (if (!decide ((D.getD (p - (i + j) / 2) zG).1 < (D.getD ((i + j) / 2) zG).1)) = true then _ else _) = _
    cases decide ((D.getD (p - (i + j) / 2) zG).1 < (D.getD ((i + j) / 2) zG).1) with
    | false =>
      rw [if_pos (show (!false) = true from rfl), if_neg (by simp), bnd_eq, add_i64 (by omega)]
      rfl
    | true => rfl
  · omega
/-- Two neighbours change places. -/
theorem swap_near (P R : List Ge) (x y : Ge) (n k : Nat) (hn : n = P.length) (hk : k = P.length + 1) :
    (P ++ x :: y :: R).getD n ((0 : Int), (0 : Int)) = x ∧ (P ++ x :: y :: R).getD k ((0 : Int), (0 : Int)) = y ∧
    ((P ++ x :: y :: R).set n (y.1, y.2)).set k (x.1, x.2) = P ++ y :: x :: R ∧ ((P ++ x :: y :: R).set k (x.1, x.2)).set n (y.1, y.2) = P ++ y :: x :: R := by
  have e : ∀ u v : Ge, P ++ u :: v :: R = (P ++ [u]) ++ v :: R := fun u v => by simp only [List.append_assoc, List.cons_append, List.nil_append]
  have l1 : ∀ u : Ge, k = (P ++ [u]).length := fun u => by rw [List.length_append]; simpa using hk
  refine ⟨get_mid hn, ?_, ?_, ?_⟩
  · rw [e]; exact get_mid (l1 x)
  · rw [set_mid hn, e, set_mid (l1 _), ← e]
  · rw [e, set_mid (l1 _), ← e, set_mid hn]
theorem mv1_eq (X B R : List Ge) (x : Ge) (hl : X.length + B.length + R.length ≤ 100000) :
    loopLim mv1F (X ++ x :: (B ++ R), ((X.length + B.length + 1 : Nat) : Int), (X.length : Int)) = some (.inl (X ++ (B ++ x :: R))) := by
  have hi1 : iSub .i64 ((X.length + B.length + 1 : Nat) : Int) 1 = ((X.length + B.length : Nat) : Int) := by rw [sub_i64 (by omega)]; omega
  refine loopLim_count (fun k => (X ++ (B.take k ++ x :: (B.drop k ++ R)), ((X.length + B.length + 1 : Nat) : Int), ((X.length + k : Nat) : Int))) B.length (by simp) (fun k hk => ?_) (by
    unfold mv1F
    dsimp only
    rw [hi1, if_neg (by rw [bLt_false (by omega)]; simp), List.take_length, List.drop_length]
    rfl)
  unfold mv1F
  dsimp only
  have hP : (X ++ B.take k).length = X.length + k := by rw [List.length_append, List.length_take]; omega
  have e1 : X ++ (B.take k ++ x :: (B.drop k ++ R)) = (X ++ B.take k) ++ x :: B[k] :: (B.drop (k + 1) ++ R) := by
    rw [List.drop_eq_getElem_cons hk]; simp only [List.append_assoc, List.cons_append]
  have e2 : (X ++ B.take k) ++ B[k] :: x :: (B.drop (k + 1) ++ R) = X ++ (B.take (k + 1) ++ x :: (B.drop (k + 1) ++ R)) := by
    rw [List.take_succ_eq_append_getElem hk]; simp only [List.append_assoc, List.cons_append, List.nil_append]
  have e3 : iAdd .i64 ((X.length + k : Nat) : Int) 1 = ((X.length + k + 1 : Nat) : Int) := by rw [add_i64 (by omega)]; rfl
  have hL : ((X ++ B.take k) ++ x :: B[k] :: (B.drop (k + 1) ++ R)).length = X.length + B.length + R.length + 1 := by
    simp only [List.length_append, List.length_cons, List.length_take, List.length_drop]; omega
  obtain ⟨s1, s2, s3, _⟩ := swap_near (X ++ B.take k) (B.drop (k + 1) ++ R) x B[k] (X.length + k) (X.length + k + 1) hP.symm (by omega)
  rw [hi1, if_pos (bLt_true (by omega)), e3, e1, Int.toNat_natCast, Int.toNat_natCast, reqP_pos (by rw [hL]; omega), reqP_pos (by rw [hL]; omega), reqP_pos (by rw [hL]; omega), bnd_eq, reqP_pos (by rw [List.length_set, hL]; omega), bnd_eq, bnd_eq, s1, s2, s3, e2]
  rfl
theorem mv2_eq (X A R : List Ge) (y : Ge) (hl : X.length + A.length + R.length ≤ 100000) :
    loopLim mv2F (X ++ (A ++ y :: R), (X.length : Int), ((X.length + A.length : Nat) : Int)) = some (.inl (X ++ y :: (A ++ R))) := by
  refine loopLim_count (fun t => (X ++ (A.take (A.length - t) ++ y :: (A.drop (A.length - t) ++ R)), (X.length : Int), ((X.length + (A.length - t) : Nat) : Int))) A.length (by simp) (fun t ht => ?_) (by
    unfold mv2F
    dsimp only
    rw [if_neg (by rw [bGt_false (by omega)]; simp), Nat.sub_self]
    rfl)
  obtain ⟨q, hq⟩ : ∃ q, A.length - t = q + 1 := ⟨A.length - t - 1, by omega⟩
  have hq2 : A.length - (t + 1) = q := by omega
  have hk : q < A.length := by omega
  unfold mv2F
  dsimp only
  rw [hq, hq2]
  have hP : (X ++ A.take q).length = X.length + q := by rw [List.length_append, List.length_take]; omega
  have e1 : X ++ (A.take (q + 1) ++ y :: (A.drop (q + 1) ++ R)) = (X ++ A.take q) ++ A[q] :: y :: (A.drop (q + 1) ++ R) := by
    rw [List.take_succ_eq_append_getElem hk]; simp only [List.append_assoc, List.cons_append, List.nil_append]
  have e2 : (X ++ A.take q) ++ y :: A[q] :: (A.drop (q + 1) ++ R) = X ++ (A.take q ++ y :: (A.drop q ++ R)) := by
    rw [List.drop_eq_getElem_cons hk]; simp only [List.append_assoc, List.cons_append]
  have e3 : iSub .i64 ((X.length + (q + 1) : Nat) : Int) 1 = ((X.length + q : Nat) : Int) := by rw [sub_i64 (by omega)]; omega
  have hL : ((X ++ A.take q) ++ A[q] :: y :: (A.drop (q + 1) ++ R)).length = X.length + A.length + R.length + 1 := by
    simp only [List.length_append, List.length_cons, List.length_take, List.length_drop]; omega
  obtain ⟨s1, s2, _, s4⟩ := swap_near (X ++ A.take q) (A.drop (q + 1) ++ R) A[q] y (X.length + q) (X.length + (q + 1)) hP.symm (by omega)
  rw [if_pos (bGt_true (by omega)), e3, e1, Int.toNat_natCast, Int.toNat_natCast, reqP_pos (by rw [hL]; omega), reqP_pos (by rw [hL]; omega), reqP_pos (by rw [hL]; omega), bnd_eq, reqP_pos (by rw [List.length_set, hL]; omega), bnd_eq, bnd_eq, s1, s2, s4, e2]
end Go.Vm
/- Consent: the merge. -/
namespace Go.Vm

theorem jn_run {σ α ρ : Type} {f : σ → Option (σ ⊕ (α ⊕ ρ))} {s : σ} {k : α → Option ρ} {R : Option ρ} {a : α} (h : loopLim f s = some (.inl a)) (h2 : k a = R) : jn (loopLim f s) k = R := by
  rw [h]; exact h2
theorem sort_left {x : Ge} {B1 B2 : List Ge} (hB : Asc (B1 ++ B2)) (h1 : ∀ y ∈ B1, y.1 < x.1) (h2 : ∀ y ∈ B2, x.1 ≤ y.1) : sortG ([x] ++ (B1 ++ B2)) = B1 ++ x :: B2 := by
  have h := sort_split (A1 := []) (A2 := [x]) (B1 := B1) (B2 := B2) (fun x hx => by cases hx) (fun y hy z hz => by
    have : z = x := by simpa using hz
    subst this
    exact h1 y hy) (List.pairwise_singleton _ _) hB
  obtain ⟨b1, b2, _⟩ := List.pairwise_append.1 hB
  rw [List.nil_append, List.nil_append, sort_id b1, sort_id (show Asc ([x] ++ B2) from List.pairwise_cons.2 ⟨h2, b2⟩)] at h
  exact h
theorem sort_right {y : Ge} {A1 A2 : List Ge} (hA : Asc (A1 ++ A2)) (h1 : ∀ x ∈ A1, x.1 ≤ y.1) (h2 : ∀ x ∈ A2, y.1 < x.1) : sortG ((A1 ++ A2) ++ [y]) = A1 ++ y :: A2 := by
  have h := sort_split (A1 := A1) (A2 := A2) (B1 := [y]) (B2 := []) (fun x hx y hy => by cases hy) (fun z hz x hx => by
    have : z = y := by simpa using hz
    subst this
    exact h2 x hx) hA (List.pairwise_singleton _ _)
  obtain ⟨a1, a2, _⟩ := List.pairwise_append.1 hA
  rw [List.append_nil, List.append_nil, sort_id a2, sort_id (show Asc (A1 ++ [y]) from List.pairwise_append.2 ⟨a1, List.pairwise_singleton _ _, fun x hx z hz => by
    have : z = y := by simpa using hz
    subst this
    exact h1 x hx⟩)] at h
  rw [h]
  simp
section
variable {X A B Y : List Ge}
theorem in_A {c : Nat} (h1 : X.length ≤ c) (h2 : c < X.length + A.length) : (X ++ (A ++ (B ++ Y))).getD c zG = A.getD (c - X.length) zG := by
  have := part_get (X := X) (A := A) (R := B ++ Y) (c := c - X.length) (d := zG) (by omega)
  rwa [show X.length + (c - X.length) = c from by omega] at this
theorem in_B {c : Nat} (h1 : X.length + A.length ≤ c) (h2 : c < X.length + A.length + B.length) : (X ++ (A ++ (B ++ Y))).getD c zG = B.getD (c - (X.length + A.length)) zG := by
  have := part_get2 (X := X) (A := A) (B := B) (R := Y) (c := c - (X.length + A.length)) (d := zG) (by omega)
  rwa [show X.length + A.length + (c - (X.length + A.length)) = c from by omega] at this
theorem all_len : (X ++ (A ++ (B ++ Y))).length = X.length + A.length + B.length + Y.length := by
  simp only [List.length_append]; omega

/-- One against many. -/
theorem search1 {x : Ge} (hB : Asc B) (hl : X.length + B.length + Y.length + 1 ≤ 100000) :
    ∃ t, t ≤ B.length ∧ loopLim bs1F (X ++ ([x] ++ (B ++ Y)), (X.length : Int), ((X.length + 1 : Nat) : Int), ((X.length + 1 + B.length : Nat) : Int)) = some (.inl (X ++ ([x] ++ (B ++ Y)), (X.length : Int), ((X.length + 1 + t : Nat) : Int))) ∧
      (∀ y ∈ B.take t, y.1 < x.1) ∧ (∀ y ∈ B.drop t, x.1 ≤ y.1) := by
  have hD := all_len (X := X) (A := [x]) (B := B) (Y := Y)
  rw [show [x].length = 1 from rfl] at hD
  have gB : ∀ c, X.length + 1 ≤ c → c < X.length + 1 + B.length → (X ++ ([x] ++ (B ++ Y))).getD c zG = B.getD (c - (X.length + 1)) zG := fun c h1 h2 => in_B (A := [x]) h1 h2
  have gA : (X ++ ([x] ++ (B ++ Y))).getD X.length zG = x := by
    have := in_A (X := X) (A := [x]) (B := B) (Y := Y) (c := X.length) (by omega) (by simp)
    rw [this, Nat.sub_self]; rfl
  generalize X ++ ([x] ++ (B ++ Y)) = D at hD gA gB ⊢
  obtain ⟨k, h1, h2, h3, h4, h5⟩ := bsearch (f := bs1F) (fun i j => (D, (X.length : Int), (i : Int), (j : Int))) (fun i => .inl (D, (X.length : Int), (i : Int))) (fun c => !decide ((D.getD c zG).1 < (D.getD X.length zG).1)) (X.length + 1) (X.length + 1 + B.length)
    (fun c d q1 q2 q3 q4 => by
      rw [gB c q1 (by omega)] at q4
      rw [gB d (by omega) q3]
      have := asc_get hB (i := c - (X.length + 1)) (j := d - (X.length + 1)) (by omega) (by omega) (d := zG)
      simp only [Bool.not_eq_true', decide_eq_false_iff_not] at q4 ⊢
      omega)
    (fun i j q1 q2 q3 => (bs1_step D X.length i j (by omega) q2 (by omega) (by omega)).trans (by split <;> rfl))
    (fun i _ _ => by unfold bs1F; dsimp only; rw [if_neg (by rw [bLt_false (by omega)]; simp)])
    (B.length + 1) (X.length + 1) (X.length + 1 + B.length) (by omega) (by omega) (by omega) (by omega) (fun c _ _ => by omega) (fun c _ _ => by omega)
  obtain ⟨t, rfl⟩ : ∃ t, k = X.length + 1 + t := ⟨k - (X.length + 1), by omega⟩
  refine ⟨t, by omega, h3, fun y hy => ?_, fun y hy => ?_⟩
  · obtain ⟨i, i1, i2, i3⟩ := take_get (d := zG) hy
    have := h4 (X.length + 1 + i) (by omega) (by omega)
    rw [gB _ (by omega) (by omega), gA, Nat.add_sub_cancel_left, i3] at this
    simpa using this
  · obtain ⟨i, i1, i2, i3⟩ := drop_get (d := zG) hy
    have := h5 (X.length + 1 + i) (by omega) (by omega)
    rw [gB _ (by omega) (by omega), gA, Nat.add_sub_cancel_left, i3] at this
    simp only [Bool.not_eq_true', decide_eq_false_iff_not] at this
    omega
theorem search2 {y : Ge} (hA : Asc A) (hl : X.length + A.length + Y.length + 1 ≤ 100000) :
    ∃ t, t ≤ A.length ∧ loopLim bs2F (X ++ (A ++ ([y] ++ Y)), ((X.length + A.length : Nat) : Int), (X.length : Int), ((X.length + A.length : Nat) : Int)) = some (.inl (X ++ (A ++ ([y] ++ Y)), ((X.length + A.length : Nat) : Int), ((X.length + t : Nat) : Int))) ∧
      (∀ x ∈ A.take t, x.1 ≤ y.1) ∧ (∀ x ∈ A.drop t, y.1 < x.1) := by
  have hD := all_len (X := X) (A := A) (B := [y]) (Y := Y)
  rw [show [y].length = 1 from rfl] at hD
  have gA : ∀ c, X.length ≤ c → c < X.length + A.length → (X ++ (A ++ ([y] ++ Y))).getD c zG = A.getD (c - X.length) zG := fun c h1 h2 => in_A h1 h2
  have gB : (X ++ (A ++ ([y] ++ Y))).getD (X.length + A.length) zG = y := by
    have := in_B (X := X) (A := A) (B := [y]) (Y := Y) (c := X.length + A.length) (by omega) (by simp)
    rw [this, Nat.sub_self]; rfl
  generalize X ++ (A ++ ([y] ++ Y)) = D at hD gA gB ⊢
  obtain ⟨k, h1, h2, h3, h4, h5⟩ := bsearch (f := bs2F) (fun i j => (D, ((X.length + A.length : Nat) : Int), (i : Int), (j : Int))) (fun i => .inl (D, ((X.length + A.length : Nat) : Int), (i : Int))) (fun c => decide ((D.getD (X.length + A.length) zG).1 < (D.getD c zG).1)) X.length (X.length + A.length)
    (fun c d q1 q2 q3 q4 => by
      rw [gA c q1 (by omega)] at q4
      rw [gA d (by omega) q3]
      have := asc_get hA (i := c - X.length) (j := d - X.length) (by omega) (by omega) (d := zG)
      have q4 := of_decide_eq_true q4
      exact decide_eq_true (by omega))
    (fun i j q1 q2 q3 => (bs2_step D (X.length + A.length) i j (by omega) q2 (by omega) (by omega)).trans (by split <;> rfl))
    (fun i _ _ => by unfold bs2F; dsimp only; rw [if_neg (by rw [bLt_false (by omega)]; simp)])
    (A.length + 1) X.length (X.length + A.length) (by omega) (by omega) (by omega) (by omega) (fun c _ _ => by omega) (fun c _ _ => by omega)
  obtain ⟨t, rfl⟩ : ∃ t, k = X.length + t := ⟨k - X.length, by omega⟩
  refine ⟨t, by omega, h3, fun x hx => ?_, fun x hx => ?_⟩
  · obtain ⟨i, i1, i2, i3⟩ := take_get (d := zG) hx
    have := h4 (X.length + i) (by omega) (by omega)
    rw [gB, gA (X.length + i) (by omega) (by omega), Nat.add_sub_cancel_left, i3] at this
    have := of_decide_eq_false this
    omega
  · obtain ⟨i, i1, i2, i3⟩ := drop_get (d := zG) hx
    have := h5 (X.length + i) (by omega) (by omega)
    rw [gB, gA (X.length + i) (by omega) (by omega), Nat.add_sub_cancel_left, i3] at this
    exact of_decide_eq_true this
theorem search3 (hA : Asc A) (hB : Asc B) (hl : X.length + A.length + B.length + Y.length ≤ 100000) {mid lo hi : Nat} (ia ib im mi n : Int) (hm : mid = (X.length + (X.length + A.length + B.length)) / 2)
    (hc : (mid < X.length + A.length ∧ lo = mid + (X.length + A.length) - (X.length + A.length + B.length) ∧ hi = mid) ∨ (X.length + A.length ≤ mid ∧ lo = X.length ∧ hi = X.length + A.length)) (h0 : 0 < A.length) (h00 : 0 < B.length) :
    ∃ k, lo ≤ k ∧ k ≤ hi ∧ X.length ≤ k ∧ loopLim bs3F (X ++ (A ++ (B ++ Y)), ia, im, ib, mi, n, (lo : Int), (hi : Int), ((mid + (X.length + A.length) - 1 : Nat) : Int)) = some (.inl (X ++ (A ++ (B ++ Y)), ia, im, ib, mi, n, (k : Int))) ∧
      (∀ x ∈ A.take (k - X.length), ∀ y ∈ B.drop (mid - k), x.1 ≤ y.1) ∧ (∀ y ∈ B.take (mid - k), ∀ x ∈ A.drop (k - X.length), y.1 < x.1) := by
  have hD := all_len (X := X) (A := A) (B := B) (Y := Y)
  have gA : ∀ c, X.length ≤ c → c < X.length + A.length → (X ++ (A ++ (B ++ Y))).getD c zG = A.getD (c - X.length) zG := fun c h1 h2 => in_A h1 h2
  have gB : ∀ c, X.length + A.length ≤ c → c < X.length + A.length + B.length → (X ++ (A ++ (B ++ Y))).getD c zG = B.getD (c - (X.length + A.length)) zG := fun c h1 h2 => in_B h1 h2
  generalize X ++ (A ++ (B ++ Y)) = D at hD gA gB ⊢
  generalize hp : mid + (X.length + A.length) - 1 = p
  have rng : ∀ c, lo ≤ c → c < hi → X.length ≤ c ∧ c < X.length + A.length ∧ c ≤ p ∧ X.length + A.length ≤ p - c ∧ p - c < X.length + A.length + B.length := fun c q1 q2 => by omega
  have lohi : lo ≤ hi := by omega
  have loX : X.length ≤ lo := by omega
  have hiA : hi ≤ X.length + A.length ∧ hi ≤ mid := by omega
  obtain ⟨k, h1, h2, h3, h4, h5⟩ := bsearch (f := bs3F) (fun i j => (D, ia, im, ib, mi, n, (i : Int), (j : Int), (p : Int))) (fun i => .inl (D, ia, im, ib, mi, n, (i : Int))) (fun c => decide ((D.getD (p - c) zG).1 < (D.getD c zG).1)) lo hi
    (fun c d q1 q2 q3 q4 => by
      obtain ⟨r1, r2, r3, r4, r5⟩ := rng c q1 (by omega)
      obtain ⟨s1, s2, s3, s4, s5⟩ := rng d (by omega) q3
      have q4 := of_decide_eq_true q4
      rw [gA c r1 r2, gB _ r4 r5] at q4
      rw [gA d s1 s2, gB _ s4 s5]
      have e1 := asc_get hA (i := c - X.length) (j := d - X.length) (by omega) (by omega) (d := zG)
      have e2 := asc_get hB (i := p - d - (X.length + A.length)) (j := p - c - (X.length + A.length)) (by omega) (by omega) (d := zG)
      exact decide_eq_true (by omega))
    (fun i j q1 q2 q3 => (bs3_step D ia im ib mi n i j p q2 (fun c t1 t2 => by
      obtain ⟨r1, r2, r3, r4, r5⟩ := rng c (by omega) (by omega)
      exact ⟨r3, by omega⟩) (by omega) (by omega)).trans (by split <;> rfl))
    (fun i _ _ => by unfold bs3F; dsimp only; rw [if_neg (by rw [bLt_false (by omega)]; simp)])
    (hi - lo) lo hi (Nat.le_refl _) (Nat.le_refl _) lohi (Nat.le_refl _) (fun c _ _ => by omega) (fun c _ _ => by omega)
  refine ⟨k, h1, h2, by omega, h3, fun x hx y hy => ?_, fun y hy x hx => ?_⟩
  · obtain ⟨i, i1, i2, i3⟩ := take_get (d := zG) hx
    obtain ⟨j, j1, j2, j3⟩ := drop_get (d := zG) hy
    by_cases c : k = lo
    · omega
    · obtain ⟨r1, r2, r3, r4, r5⟩ := rng (k - 1) (by omega) (by omega)
      have := of_decide_eq_false (h4 (k - 1) (by omega) (by omega))
      rw [gA _ r1 r2, gB _ r4 r5] at this
      have e1 := asc_get hA (i := i) (j := k - 1 - X.length) (by omega) (by omega) (d := zG)
      have e2 := asc_get hB (i := p - (k - 1) - (X.length + A.length)) (j := j) (by omega) (by omega) (d := zG)
      rw [i3] at e1
      rw [j3] at e2
      omega
  · obtain ⟨i, i1, i2, i3⟩ := drop_get (d := zG) hx
    obtain ⟨j, j1, j2, j3⟩ := take_get (d := zG) hy
    by_cases c : k = hi
    · omega
    · obtain ⟨r1, r2, r3, r4, r5⟩ := rng k (by omega) (by omega)
      have := of_decide_eq_true (h5 k (by omega) (by omega))
      rw [gA _ r1 r2, gB _ r4 r5] at this
      have e1 := asc_get hA (i := k - X.length) (j := i) (by omega) (by omega) (d := zG)
      have e2 := asc_get hB (i := j) (j := p - k - (X.length + A.length)) (by omega) (by omega) (d := zG)
      rw [i3] at e1
      rw [j3] at e2
      omega
end
end Go.Vm
/- Consent: the merge gives the sorted list. -/
namespace Go.Vm

theorem sym_eq : ∀ (fuel : Nat) (X A B Y : List Ge), A.length + B.length ≤ fuel → 0 < A.length → 0 < B.length → Asc A → Asc B → X.length + A.length + B.length + Y.length ≤ 100000 →
    sh_slices_symMergeCmpFunc_passkey_api_Gesture__r fuel (X ++ (A ++ (B ++ Y)), (X.length : Int), ((X.length + A.length : Nat) : Int), ((X.length + A.length + B.length : Nat) : Int)) = some (X ++ (sortG (A ++ B) ++ Y))
  | 0, X, A, B, Y, hf, hA0, hB0, hA, hB, hl => by omega
  | fuel + 1, X, A, B, Y, hf, hA0, hB0, hA, hB, hl => by
    have hD := all_len (X := X) (A := A) (B := B) (Y := Y)
    have hfin : (X ++ (A ++ (B ++ Y))).length = (X ++ (sortG (A ++ B) ++ Y)).length := by
      simp only [List.length_append, sortG_len]; omega
    unfold sh_slices_symMergeCmpFunc_passkey_api_Gesture__r
    dsimp only
    have e1 : iSub .i64 ((X.length + A.length : Nat) : Int) (X.length : Int) = (A.length : Int) := by rw [sub_i64 (by omega)]; omega
    have e2 : iSub .i64 ((X.length + A.length + B.length : Nat) : Int) ((X.length + A.length : Nat) : Int) = (B.length : Int) := by rw [sub_i64 (by omega)]; omega
    by_cases cA : A.length = 1
    · rw [e1, if_pos (bEq_true (by omega))]
      obtain ⟨x, rfl⟩ := List.length_eq_one_iff.1 cA
      obtain ⟨t, t1, t2, t3, t4⟩ := search1 (X := X) (Y := Y) (x := x) hB (by omega)
      refine jn_run t2 ?_
      dsimp only
      have hb : B = B.take t ++ B.drop t := (List.take_append_drop t B).symm
      have hs : sortG ([x] ++ B) = B.take t ++ x :: B.drop t := by
        have := sort_left (x := x) (B1 := B.take t) (B2 := B.drop t) (by rw [← hb]; exact hB) t3 t4
        rwa [← hb] at this
      have ht : (B.take t).length = t := by rw [List.length_take]; omega
      have hm := mv1_eq X (B.take t) (B.drop t ++ Y) x (by rw [List.length_append, List.length_drop, ht]; omega)
      have hm1 : X ++ x :: (B.take t ++ (B.drop t ++ Y)) = X ++ ([x] ++ (B ++ Y)) := by
        rw [← List.append_assoc (B.take t), ← hb]; rfl
      have hm2 : X ++ (B.take t ++ x :: (B.drop t ++ Y)) = X ++ (sortG ([x] ++ B) ++ Y) := by
        rw [hs]; simp only [List.append_assoc, List.cons_append]
      rw [hm1, hm2, ht, show X.length + t + 1 = X.length + 1 + t from by omega] at hm
      refine jn_run hm ?_
      rw [reqP_pos hfin]
    · rw [e1, if_neg (nb (by omega)), e2]
      by_cases cB : B.length = 1
      · rw [if_pos (bEq_true (by omega))]
        obtain ⟨y, rfl⟩ := List.length_eq_one_iff.1 cB
        obtain ⟨t, t1, t2, t3, t4⟩ := search2 (X := X) (Y := Y) (y := y) hA (by omega)
        refine jn_run t2 ?_
        dsimp only
        have hb : A = A.take t ++ A.drop t := (List.take_append_drop t A).symm
        have hs : sortG (A ++ [y]) = A.take t ++ y :: A.drop t := by
          have := sort_right (y := y) (A1 := A.take t) (A2 := A.drop t) (by rw [← hb]; exact hA) t3 t4
          rwa [← hb] at this
        have ht : (A.take t).length = t := by rw [List.length_take]; omega
        have ht2 : (A.drop t).length = A.length - t := List.length_drop
        have hm := mv2_eq (X ++ A.take t) (A.drop t) Y y (by rw [List.length_append, ht, ht2]; omega)
        have hm1 : (X ++ A.take t) ++ (A.drop t ++ y :: Y) = X ++ (A ++ ([y] ++ Y)) := by
          rw [List.append_assoc, ← List.append_assoc (A.take t), ← hb]; rfl
        have hm2 : (X ++ A.take t) ++ y :: (A.drop t ++ Y) = X ++ (sortG (A ++ [y]) ++ Y) := by
          rw [hs]; simp only [List.append_assoc, List.cons_append]
        rw [hm1, hm2, List.length_append, ht, ht2, show X.length + t + (A.length - t) = X.length + A.length from by omega] at hm
        refine jn_run hm ?_
        rw [reqP_pos hfin]
      · rw [if_neg (nb (by omega)), half_eq _ _ (by omega), bnd_eq]
        generalize hmid : (X.length + (X.length + A.length + B.length)) / 2 = mid
        have e3 : iAdd .i64 (mid : Int) ((X.length + A.length : Nat) : Int) = ((mid + (X.length + A.length) : Nat) : Int) := by rw [add_i64 (by omega)]; omega
        rw [e3, bnd_eq]
        -- where the search begins and ends
        obtain ⟨lo, hi, hc, hj⟩ : ∃ lo hi : Nat, ((mid < X.length + A.length ∧ lo = mid + (X.length + A.length) - (X.length + A.length + B.length) ∧ hi = mid) ∨ (X.length + A.length ≤ mid ∧ lo = X.length ∧ hi = X.length + A.length)) ∧
            (if bGt ((X.length + A.length : Nat) : Int) (mid : Int) = true then
              bnd (iSub .i64 ((mid + (X.length + A.length) : Nat) : Int) ((X.length + A.length + B.length : Nat) : Int)) fun b23 =>
              some (.inl (X ++ (A ++ (B ++ Y)), (X.length : Int), ((X.length + A.length : Nat) : Int), ((X.length + A.length + B.length : Nat) : Int), (mid : Int), ((mid + (X.length + A.length) : Nat) : Int), b23, (mid : Int)))
            else
              some (.inl (X ++ (A ++ (B ++ Y)), (X.length : Int), ((X.length + A.length : Nat) : Int), ((X.length + A.length + B.length : Nat) : Int), (mid : Int), ((mid + (X.length + A.length) : Nat) : Int), (X.length : Int), ((X.length + A.length : Nat) : Int))) : Option ((List Ge × Int × Int × Int × Int × Int × Int × Int) ⊕ List Ge)) =
            some (.inl (X ++ (A ++ (B ++ Y)), (X.length : Int), ((X.length + A.length : Nat) : Int), ((X.length + A.length + B.length : Nat) : Int), (mid : Int), ((mid + (X.length + A.length) : Nat) : Int), (lo : Int), (hi : Int))) := by
          by_cases c : mid < X.length + A.length
          · refine ⟨mid + (X.length + A.length) - (X.length + A.length + B.length), mid, .inl ⟨c, rfl, rfl⟩, ?_⟩
            have e : iSub .i64 ((mid + (X.length + A.length) : Nat) : Int) ((X.length + A.length + B.length : Nat) : Int) = ((mid + (X.length + A.length) - (X.length + A.length + B.length) : Nat) : Int) := by rw [sub_i64 (by omega)]; omega
            rw [if_pos (bGt_true (by omega)), e]
            rfl
          · refine ⟨X.length, X.length + A.length, .inr ⟨by omega, rfl, rfl⟩, ?_⟩
            rw [if_neg (by rw [bGt_false (by omega)]; simp)]
        refine jn_of13 hj ?_
        dsimp only
        have e4 : iSub .i64 ((mid + (X.length + A.length) : Nat) : Int) 1 = ((mid + (X.length + A.length) - 1 : Nat) : Int) := by rw [sub_i64 (by omega)]; omega
        rw [e4, bnd_eq]
        obtain ⟨k, k1, k2, k3, k4, k5, k6⟩ := search3 (X := X) (A := A) (B := B) (Y := Y) hA hB hl (X.length : Int) ((X.length + A.length + B.length : Nat) : Int) ((X.length + A.length : Nat) : Int) (mid : Int) ((mid + (X.length + A.length) : Nat) : Int) hmid.symm hc hA0 hB0
        refine jn_run k4 ?_
        dsimp only
        have kA : k ≤ X.length + A.length := by omega
        have kM : k ≤ mid := by omega
        -- the four parts
        generalize hu : k - X.length = u at k5 k6
        generalize hv : mid - k = v at k5 k6
        have hk : k = X.length + u := by omega
        have hmd : mid = X.length + u + v := by omega
        have hvB : v ≤ B.length := by omega
        have hA' : A = A.take u ++ A.drop u := (List.take_append_drop u A).symm
        have hB' : B = B.take v ++ B.drop v := (List.take_append_drop v B).symm
        have l1 : (A.take u).length = u := by rw [List.length_take]; omega
        have l2 : (A.drop u).length = A.length - u := List.length_drop
        have l3 : (B.take v).length = v := by rw [List.length_take]; omega
        have l4 : (B.drop v).length = B.length - v := List.length_drop
        have hsp := sort_split k5 k6 (by rw [← hA']; exact hA) (by rw [← hB']; exact hB)
        rw [← hA', ← hB'] at hsp
        have aA : Asc (A.take u) ∧ Asc (A.drop u) := by
          have := hA
          rw [hA'] at this
          obtain ⟨q1, q2, _⟩ := List.pairwise_append.1 this
          exact ⟨q1, q2⟩
        have aB : Asc (B.take v) ∧ Asc (B.drop v) := by
          have := hB
          rw [hB'] at this
          obtain ⟨q1, q2, _⟩ := List.pairwise_append.1 this
          exact ⟨q1, q2⟩
        have e5 : iSub .i64 ((mid + (X.length + A.length) : Nat) : Int) (k : Int) = ((X.length + A.length + v : Nat) : Int) := by rw [sub_i64 (by omega)]; omega
        rw [e5, bnd_eq]
        have hAB : X ++ (A ++ (B ++ Y)) = (X ++ A.take u) ++ (A.drop u ++ (B.take v ++ (B.drop v ++ Y))) := by
          have : X ++ ((A.take u ++ A.drop u) ++ ((B.take v ++ B.drop v) ++ Y)) = (X ++ A.take u) ++ (A.drop u ++ (B.take v ++ (B.drop v ++ Y))) := by simp only [List.append_assoc]
          rwa [← hA', ← hB'] at this
        have hrot : (X ++ A.take u) ++ (B.take v ++ (A.drop u ++ (B.drop v ++ Y))) = X ++ (A.take u ++ (B.take v ++ (A.drop u ++ (B.drop v ++ Y)))) := List.append_assoc _ _ _
        refine jn_of13 (a := (X ++ (A.take u ++ (B.take v ++ (A.drop u ++ (B.drop v ++ Y)))), (X.length : Int), ((X.length + A.length + B.length : Nat) : Int), (mid : Int), (k : Int), ((X.length + A.length + v : Nat) : Int))) ?_ ?_
        · by_cases c1 : k < X.length + A.length
          · rw [if_pos (bLt_true (by omega))]
            by_cases c2 : 0 < v
            · have hr := rotate_eq (X ++ A.take u) (A.drop u) (B.take v) (B.drop v ++ Y) (by omega) (by omega) (by rw [List.length_append, List.length_append]; omega)
              rw [← hAB, hrot, List.length_append, l1, l2, l3, ← hk, show k + (A.length - u) = X.length + A.length from by omega] at hr
              rw [if_pos (bLt_true (by omega)), hr, Option.bind_some]
            · have v0 : v = 0 := by omega
              rw [if_neg (by rw [bLt_false (by omega)]; simp), hAB, ← hrot, v0]
              simp
          · have u0 : A.drop u = [] := List.drop_of_length_le (by omega)
            rw [if_neg (by rw [bLt_false (by omega)]; simp), hAB, ← hrot, u0]
            simp
        dsimp only
        -- the first half
        refine jn_of13 (a := (X ++ (sortG (A.take u ++ B.take v) ++ (A.drop u ++ (B.drop v ++ Y))), ((X.length + A.length + B.length : Nat) : Int), (mid : Int), ((X.length + A.length + v : Nat) : Int))) ?_ ?_
        · by_cases c1 : 0 < u
          · rw [if_pos (bLt_true (by omega))]
            by_cases c2 : 0 < v
            · have hr := sym_eq fuel X (A.take u) (B.take v) (A.drop u ++ (B.drop v ++ Y)) (by omega) (by omega) (by omega) aA.1 aB.1 (by rw [List.length_append, List.length_append]; omega)
              rw [l1, l3, ← hk, show k + v = mid from by omega] at hr
              rw [if_pos (bLt_true (by omega)), hr, Option.bind_some]
            · have v0 : v = 0 := by omega
              have : B.take v = [] := by rw [v0]; rfl
              rw [if_neg (by rw [bLt_false (by omega)]; simp), this, List.append_nil, sort_id aA.1]
              simp
          · have u0 : u = 0 := by omega
            have : A.take u = [] := by rw [u0]; rfl
            rw [if_neg (by rw [bLt_false (by omega)]; simp), this, List.nil_append, List.nil_append, sort_id aB.1]
        dsimp only
        -- the second half
        have lS : (X ++ sortG (A.take u ++ B.take v)).length = mid := by rw [List.length_append, sortG_len, List.length_append]; omega
        have hS : X ++ (sortG (A.take u ++ B.take v) ++ (A.drop u ++ (B.drop v ++ Y))) = (X ++ sortG (A.take u ++ B.take v)) ++ (A.drop u ++ (B.drop v ++ Y)) := (List.append_assoc _ _ _).symm
        have hE : X ++ (sortG (A ++ B) ++ Y) = (X ++ sortG (A.take u ++ B.take v)) ++ (sortG (A.drop u ++ B.drop v) ++ Y) := by
          rw [hsp]; simp only [List.append_assoc]
        by_cases c1 : 0 < A.length - u
        · rw [if_pos (bLt_true (by omega))]
          by_cases c2 : 0 < B.length - v
          · have hr := sym_eq fuel (X ++ sortG (A.take u ++ B.take v)) (A.drop u) (B.drop v) Y (by omega) (by omega) (by omega) aA.2 aB.2 (by rw [lS]; omega)
            rw [lS, l2, l4, show mid + (A.length - u) = X.length + A.length + v from by omega, show X.length + A.length + v + (B.length - v) = X.length + A.length + B.length from by omega] at hr
            rw [if_pos (bLt_true (by omega)), hS, hr, Option.bind_some, ← hE, reqP_pos hfin]
          · have : B.drop v = [] := List.drop_of_length_le (by omega)
            have hx : X ++ (sortG (A.take u ++ B.take v) ++ (A.drop u ++ (B.drop v ++ Y))) = X ++ (sortG (A ++ B) ++ Y) := by
              rw [hE, hS, this, List.append_nil, sort_id aA.2, List.nil_append]
            rw [if_neg (by rw [bLt_false (by omega)]; simp), hx, reqP_pos hfin]
        · have : A.drop u = [] := List.drop_of_length_le (by omega)
          have hx : X ++ (sortG (A.take u ++ B.take v) ++ (A.drop u ++ (B.drop v ++ Y))) = X ++ (sortG (A ++ B) ++ Y) := by
            rw [hE, hS, this, List.nil_append, List.nil_append, sort_id aB.2]
          rw [if_neg (by rw [bLt_false (by omega)]; simp), hx, reqP_pos hfin]
end Go.Vm
/- Consent: the stable sort of at most 50; Await without the bound of 20. -/
namespace Go.Vm

theorem Ins2 (X A Y : List Ge) (hl : X.length + A.length + Y.length ≤ 100000) : sh_slices_insertionSortCmpFunc_passkey_api_Gesture_ (X ++ (A ++ Y), (X.length : Int), ((X.length + A.length : Nat) : Int)) = some (X ++ (sortG A ++ Y)) := by
  unfold sh_slices_insertionSortCmpFunc_passkey_api_Gesture_
  dsimp only
  rw [add_i64 (by omega), bnd_eq]
  have hfin : (X ++ (A ++ Y)).length = (X ++ (sortG A ++ Y)).length := by simp only [List.length_append, sortG_len]
  refine jn_run (f := outF) (a := X ++ (sortG A ++ Y)) ?_ (by rw [reqP_pos hfin])
  cases A with
  | nil => exact loopLim_end (by unfold outF; dsimp only; rw [if_neg (by rw [bLt_false (by simp; omega)]; simp)]; rfl)
  | cons x rem =>
    have h := outer_eq X Y rem [x] ((X.length + (x :: rem).length : Nat) : Int) ((X.length : Int) + 1) (by simp at hl ⊢; omega) (by simp) (by simp; omega)
    have e : X ++ [x].reverse ++ (rem ++ Y) = X ++ (x :: rem ++ Y) := by simp
    have e2 : X ++ (rem.foldl insRev [x]).reverse ++ Y = X ++ (sortG (x :: rem) ++ Y) := by simp [sortG, insRev]
    rw [e, e2] at h
    exact h
theorem Sym2 (X A B Y : List Ge) (hf : A.length + B.length ≤ 64) (hA0 : 0 < A.length) (hB0 : 0 < B.length) (hA : Asc A) (hB : Asc B) (hl : X.length + A.length + B.length + Y.length ≤ 100000) :
    sh_slices_symMergeCmpFunc_passkey_api_Gesture_ (X ++ (A ++ (B ++ Y)), (X.length : Int), ((X.length + A.length : Nat) : Int), ((X.length + A.length + B.length : Nat) : Int)) = some (X ++ (sortG (A ++ B) ++ Y)) := sym_eq 64 X A B Y hf hA0 hB0 hA hB hl
theorem sort_sort (A B : List Ge) : sortG (sortG A ++ sortG B) = sortG (A ++ B) :=
  asc_unique _ _ (sort_asc _) (sort_asc _) fun t => by rw [sort_filter, sort_filter, List.filter_append, List.filter_append, sort_filter, sort_filter]
theorem Stable50 (l : List Ge) (hl : l.length ≤ 50) : sh_slices_stableCmpFunc_passkey_api_Gesture_ (l, (l.length : Int)) = some (sortG l) := by
  by_cases h20 : l.length < 20
  · exact Stable_eq l h20
  have c1 : iAdd .i64 20 20 = 40 := by decide
  have c2 : iAdd .i64 40 20 = 60 := by decide
  have c3 : iMul .i64 2 20 = 40 := by decide
  have c4 : iMul .i64 20 2 = 40 := by decide
  have c5 : iMul .i64 2 40 = 80 := by decide
  have c6 : iMul .i64 40 2 = 80 := by decide
  have c7 : iAdd .i64 0 20 = 20 := by decide
  have c8 : iAdd .i64 0 40 = 40 := by decide
  have c9 : iAdd .i64 40 40 = 80 := by decide
  have hA : (l.take 20).length = 20 := by rw [List.length_take]; omega
  have hB : (l.drop 20).length = l.length - 20 := List.length_drop
  have hl1 : l = l.take 20 ++ l.drop 20 := (List.take_append_drop 20 l).symm
  have i1 : sh_slices_insertionSortCmpFunc_passkey_api_Gesture_ (l, 0, 20) = some (sortG (l.take 20) ++ l.drop 20) := by
    have := Ins2 [] (l.take 20) (l.drop 20) (by simp only [List.length_nil]; omega)
    rw [List.nil_append, ← hl1, hA] at this
    exact this
  have sA : (sortG (l.take 20)).length = 20 := by rw [sortG_len, hA]
  have hfin := sortG_len l
  unfold sh_slices_stableCmpFunc_passkey_api_Gesture_
  dsimp only
  rw [bnd_eq, loopLim_next (s' := (sortG (l.take 20) ++ l.drop 20, (l.length : Int), 20, 20, 40)) (by
    dsimp only
    rw [if_pos (bLe_true (by omega)), i1, Option.bind_some, c1, bnd_eq])]
  by_cases h40 : l.length < 40
  · rw [loopLim_end (a := .inl (sortG (l.take 20) ++ l.drop 20, (l.length : Int), 20, 20)) (by dsimp only; rw [if_neg (by rw [bLe_false (by omega)]; simp)]), jn_inl]
    dsimp only
    have i2 : sh_slices_insertionSortCmpFunc_passkey_api_Gesture_ (sortG (l.take 20) ++ l.drop 20, 20, (l.length : Int)) = some (sortG (l.take 20) ++ sortG (l.drop 20)) := by
      have := Ins2 (sortG (l.take 20)) (l.drop 20) [] (by simp only [List.length_nil]; omega)
      rw [List.append_nil, List.append_nil, sA, hB, show 20 + (l.length - 20) = l.length from by omega] at this
      exact this
    rw [i2, Option.bind_some]
    by_cases e20 : l.length = 20
    · have : l.drop 20 = [] := List.drop_of_length_le (by omega)
      have e : sortG (l.take 20) ++ sortG (l.drop 20) = sortG l := by
        rw [this, List.take_of_length_le (by omega)]
        exact List.append_nil _
      rw [e, loopLim_end (a := .inl (sortG l)) (by dsimp only; rw [if_neg (by rw [bLt_false (by omega)]; simp)]), jn_inl, reqP_pos hfin.symm]
    · have m1 : sh_slices_symMergeCmpFunc_passkey_api_Gesture_ (sortG (l.take 20) ++ sortG (l.drop 20), 0, 20, (l.length : Int)) = some (sortG l) := by
        have := Sym2 [] (sortG (l.take 20)) (sortG (l.drop 20)) [] (by rw [sA, sortG_len]; omega) (by omega) (by rw [sortG_len]; omega) (sort_asc _) (sort_asc _) (by simp only [List.length_nil, sortG_len]; omega)
        rw [sort_sort, ← hl1, List.append_nil, List.append_nil, List.nil_append, List.nil_append, sA, sortG_len, hB, show ([] : List Ge).length + 20 + (l.length - 20) = l.length from by simp only [List.length_nil]; omega] at this
        exact this
      rw [loopLim_next (s' := (sortG l, (l.length : Int), 40)) (by
        dsimp only
        rw [if_pos (bLt_true (by omega)), c3, bnd_eq, loopLim_end (a := .inl (sortG (l.take 20) ++ sortG (l.drop 20), (l.length : Int), 20, 0)) (by dsimp only; rw [if_neg (by rw [bLe_false (by omega)]; simp)]), jn_inl]
        dsimp only
        rw [c7, bnd_eq, if_pos (bLt_true (by omega)), m1, Option.bind_some, jn_inl]
        dsimp only
        rw [c4, bnd_eq]), loopLim_end (a := .inl (sortG l)) (by dsimp only; rw [if_neg (by rw [bLt_false (by omega)]; simp)]), jn_inl, reqP_pos hfin.symm]
  · -- three blocks
    have hB1 : ((l.drop 20).take 20).length = 20 := by rw [List.length_take]; omega
    have hC : ((l.drop 20).drop 20).length = l.length - 40 := by rw [List.length_drop]; omega
    have hl2 : l.drop 20 = (l.drop 20).take 20 ++ (l.drop 20).drop 20 := (List.take_append_drop 20 _).symm
    generalize l.take 20 = A at *
    generalize (l.drop 20).take 20 = B at *
    generalize (l.drop 20).drop 20 = C at *
    generalize l.drop 20 = BC at *
    subst hl2
    have sB : (sortG B).length = 20 := by rw [sortG_len, hB1]
    have i2 : sh_slices_insertionSortCmpFunc_passkey_api_Gesture_ (sortG A ++ (B ++ C), 20, 40) = some (sortG A ++ (sortG B ++ C)) := by
      have := Ins2 (sortG A) B C (by omega)
      rw [sA, hB1] at this
      exact this
    rw [loopLim_next (s' := (sortG A ++ (sortG B ++ C), (l.length : Int), 20, 40, 60)) (by
      dsimp only
      rw [if_pos (bLe_true (by omega)), i2, Option.bind_some, c2, bnd_eq]),
      loopLim_end (a := .inl (sortG A ++ (sortG B ++ C), (l.length : Int), 20, 40)) (by dsimp only; rw [if_neg (by rw [bLe_false (by omega)]; simp)]), jn_inl]
    dsimp only
    have i3 : sh_slices_insertionSortCmpFunc_passkey_api_Gesture_ (sortG A ++ (sortG B ++ C), 40, (l.length : Int)) = some (sortG A ++ (sortG B ++ sortG C)) := by
      have := Ins2 (sortG A ++ sortG B) C [] (by rw [List.length_append]; simp only [List.length_nil]; omega)
      rw [List.append_nil, List.append_nil, List.length_append, sA, sB, hC, show 20 + 20 + (l.length - 40) = l.length from by omega, List.append_assoc, List.append_assoc] at this
      exact this
    have m1 : sh_slices_symMergeCmpFunc_passkey_api_Gesture_ (sortG A ++ (sortG B ++ sortG C), 0, 20, 40) = some (sortG (A ++ B) ++ sortG C) := by
      have := Sym2 [] (sortG A) (sortG B) (sortG C) (by omega) (by omega) (by omega) (sort_asc _) (sort_asc _) (by simp only [List.length_nil, sortG_len]; omega)
      rw [sort_sort, List.nil_append, List.nil_append, sA, sB] at this
      exact this
    rw [i3, Option.bind_some]
    have sAB : (sortG (A ++ B)).length = 40 := by rw [sortG_len, List.length_append]; omega
    have step1 : ∀ k : List Ge → Option (List Ge), True := fun _ => trivial
    rw [loopLim_next (s' := (sortG (A ++ B) ++ sortG C, (l.length : Int), 40)) (by
      dsimp only
      rw [if_pos (bLt_true (by omega)), c3, bnd_eq, loopLim_next (s' := (sortG (A ++ B) ++ sortG C, (l.length : Int), 20, 40, 80)) (by
        dsimp only
        rw [if_pos (bLe_true (by omega)), c7, m1, Option.bind_some, c3, c9, bnd_eq]), loopLim_end (a := .inl (sortG (A ++ B) ++ sortG C, (l.length : Int), 20, 40)) (by dsimp only; rw [if_neg (by rw [bLe_false (by omega)]; simp)]), jn_inl]
      dsimp only
      rw [c2, bnd_eq, if_neg (by rw [bLt_false (by omega)]; simp), jn_inl]
      dsimp only
      rw [c4, bnd_eq])]
    by_cases e40 : l.length = 40
    · have hC0 : C = [] := List.length_eq_zero_iff.1 (by omega)
      have e : sortG (A ++ B) ++ sortG C = sortG l := by
        rw [hl1, hC0, List.append_nil]
        exact List.append_nil _
      rw [e, loopLim_end (a := .inl (sortG l)) (by dsimp only; rw [if_neg (by rw [bLt_false (by omega)]; simp)]), jn_inl, reqP_pos hfin.symm]
    · have m2 : sh_slices_symMergeCmpFunc_passkey_api_Gesture_ (sortG (A ++ B) ++ sortG C, 0, 40, (l.length : Int)) = some (sortG l) := by
        have := Sym2 [] (sortG (A ++ B)) (sortG C) [] (by rw [sAB, sortG_len]; omega) (by omega) (by rw [sortG_len]; omega) (sort_asc _) (sort_asc _) (by simp only [List.length_nil, sAB, sortG_len]; omega)
        rw [sort_sort, List.append_assoc, ← hl1, List.append_nil, List.append_nil, List.nil_append, List.nil_append, sAB, sortG_len, hC, show ([] : List Ge).length + 40 + (l.length - 40) = l.length from by simp only [List.length_nil]; omega] at this
        exact this
      rw [loopLim_next (s' := (sortG l, (l.length : Int), 80)) (by
        dsimp only
        rw [if_pos (bLt_true (by omega)), c5, bnd_eq, loopLim_end (a := .inl (sortG (A ++ B) ++ sortG C, (l.length : Int), 40, 0)) (by dsimp only; rw [if_neg (by rw [bLe_false (by omega)]; simp)]), jn_inl]
        dsimp only
        rw [c8, bnd_eq, if_pos (bLt_true (by omega)), m2, Option.bind_some, jn_inl]
        dsimp only
        rw [c6, bnd_eq]), loopLim_end (a := .inl (sortG l)) (by dsimp only; rw [if_neg (by rw [bLt_false (by omega)]; simp)]), jn_inl, reqP_pos hfin.symm]
theorem SortStable50 (l : List Ge) (hl : l.length ≤ 50) : sh_slices_SortStableFunc___passkey_api_Gesture_passkey_api_Gesture_ l = some (sortG l) := by
  unfold sh_slices_SortStableFunc___passkey_api_Gesture_passkey_api_Gesture_
  rw [Stable50 l hl, Option.bind_some, reqP_pos (sortG_len l).symm]
end Go.Vm
/- Consent: the reference; ConsentAwaits. -/
namespace Go.Vm

def refF (s5 : (Int × Int × Bool × Bool × (List (Int × Int)) × Int × Int)) : Option (((Int × Int × Bool × Bool × (List (Int × Int)) × Int × Int)) ⊕ ((Int × Int × Bool × Bool × (List (Int × Int)) × Int) ⊕ ((Int × Int × Bool × Bool × (List (Int × Int)) × Int) ⊕ (Int ⊕ (Bool × Bool × Int × Int))))) :=
  if (bLt s5.2.2.2.2.2.2 (s5.2.2.2.2.1.length : Int)) then
    jn (α := (Int × Int × Bool × Bool × (List (Int × Int)) × Int × Int)) (ρ := ((Int × Int × Bool × Bool × (List (Int × Int)) × Int × Int) ⊕ ((Int × Int × Bool × Bool × (List (Int × Int)) × Int) ⊕ ((Int × Int × Bool × Bool × (List (Int × Int)) × Int) ⊕ (Int ⊕ (Bool × Bool × Int × Int)))))) (
      atL s5.2.2.2.2.1 s5.2.2.2.2.2.2 fun y8 =>
      if (bNe y8.1 s5.2.2.2.2.2.1) then
        some (.inl (s5.1, s5.2.1, s5.2.2.1, s5.2.2.2.1, s5.2.2.2.2.1, s5.2.2.2.2.2.1, s5.2.2.2.2.2.2))
      else
        jn (α := (Int × Int × Bool × Bool × (List (Int × Int)) × Int × Int × Bool)) (ρ := ((Int × Int × Bool × Bool × (List (Int × Int)) × Int × Int) ⊕ ((Int × Int × Bool × Bool × (List (Int × Int)) × Int × Int) ⊕ ((Int × Int × Bool × Bool × (List (Int × Int)) × Int) ⊕ ((Int × Int × Bool × Bool × (List (Int × Int)) × Int) ⊕ (Int ⊕ (Bool × Bool × Int × Int))))))) (
          atL s5.2.2.2.2.1 s5.2.2.2.2.2.2 fun y10 =>
          if (bEq y10.2 (1 : Int)) then
            some (.inl (s5.1, s5.2.1, s5.2.2.1, s5.2.2.2.1, s5.2.2.2.2.1, s5.2.2.2.2.2.1, s5.2.2.2.2.2.2, true))
          else
            atL s5.2.2.2.2.1 s5.2.2.2.2.2.2 fun y11 =>
            if (bEq y11.2 (2 : Int)) then
              if (!s5.2.2.1) then
                some (.inl (s5.1, s5.2.1, s5.2.2.1, s5.2.2.2.1, s5.2.2.2.2.1, s5.2.2.2.2.2.1, s5.2.2.2.2.2.2, true))
              else
                atL s5.2.2.2.2.1 s5.2.2.2.2.2.2 fun y12 =>
                if (bEq y12.2 (3 : Int)) then
                  some (.inl (s5.1, s5.2.1, s5.2.2.1, s5.2.2.2.1, s5.2.2.2.2.1, s5.2.2.2.2.2.1, s5.2.2.2.2.2.2, (!s5.2.2.2.1)))
                else
                  some (.inl (s5.1, s5.2.1, s5.2.2.1, s5.2.2.2.1, s5.2.2.2.2.1, s5.2.2.2.2.2.1, s5.2.2.2.2.2.2, false))
            else
              atL s5.2.2.2.2.1 s5.2.2.2.2.2.2 fun y13 =>
              if (bEq y13.2 (3 : Int)) then
                some (.inl (s5.1, s5.2.1, s5.2.2.1, s5.2.2.2.1, s5.2.2.2.2.1, s5.2.2.2.2.2.1, s5.2.2.2.2.2.2, (!s5.2.2.2.1)))
              else
                some (.inl (s5.1, s5.2.1, s5.2.2.1, s5.2.2.2.1, s5.2.2.2.2.1, s5.2.2.2.2.2.1, s5.2.2.2.2.2.2, false))
        ) fun j9 =>
        if j9.2.2.2.2.2.2.2 then
          if (!j9.2.2.2.1) then
            some (.inr (.inr (.inr (.inr (.inr (true, false, j9.2.2.2.2.2.1, (0 : Int)))))))
          else
            atL j9.2.2.2.2.1 j9.2.2.2.2.2.2.1 fun y14 =>
            if (bEq y14.2 (2 : Int)) then
              if j9.2.2.1 then
                some (.inr (.inr (.inr (.inr (.inr (true, true, j9.2.2.2.2.2.1, (0 : Int)))))))
              else
                atL j9.2.2.2.2.1 j9.2.2.2.2.2.2.1 fun y15 =>
                if (bEq y15.2 (3 : Int)) then
                  if j9.2.2.2.1 then
                    some (.inr (.inr (.inr (.inr (.inr (false, false, (0 : Int), (20 : Int)))))))
                  else
                    atL j9.2.2.2.2.1 j9.2.2.2.2.2.2.1 fun y16 =>
                    bnd (bEq y16.2 (4 : Int)) fun b17 =>
                    if b17 then
                      some (.inr (.inr (.inr (.inr (.inr (false, false, (0 : Int), (20 : Int)))))))
                    else
                      atL j9.2.2.2.2.1 j9.2.2.2.2.2.2.1 fun y18 =>
                      bnd (bEq y18.2 (5 : Int)) fun b19 =>
                      if b19 then
                        some (.inr (.inr (.inr (.inr (.inr (false, false, (0 : Int), (21 : Int)))))))
                      else
                        some (.inl (j9.1, j9.2.1, j9.2.2.1, j9.2.2.2.1, j9.2.2.2.2.1, j9.2.2.2.2.2.1, j9.2.2.2.2.2.2.1))
                else
                  atL j9.2.2.2.2.1 j9.2.2.2.2.2.2.1 fun y20 =>
                  bnd (bEq y20.2 (4 : Int)) fun b21 =>
                  if b21 then
                    some (.inr (.inr (.inr (.inr (.inr (false, false, (0 : Int), (20 : Int)))))))
                  else
                    atL j9.2.2.2.2.1 j9.2.2.2.2.2.2.1 fun y22 =>
                    bnd (bEq y22.2 (5 : Int)) fun b23 =>
                    if b23 then
                      some (.inr (.inr (.inr (.inr (.inr (false, false, (0 : Int), (21 : Int)))))))
                    else
                      some (.inl (j9.1, j9.2.1, j9.2.2.1, j9.2.2.2.1, j9.2.2.2.2.1, j9.2.2.2.2.2.1, j9.2.2.2.2.2.2.1))
            else
              atL j9.2.2.2.2.1 j9.2.2.2.2.2.2.1 fun y24 =>
              if (bEq y24.2 (3 : Int)) then
                if j9.2.2.2.1 then
                  some (.inr (.inr (.inr (.inr (.inr (false, false, (0 : Int), (20 : Int)))))))
                else
                  atL j9.2.2.2.2.1 j9.2.2.2.2.2.2.1 fun y25 =>
                  bnd (bEq y25.2 (4 : Int)) fun b26 =>
                  if b26 then
                    some (.inr (.inr (.inr (.inr (.inr (false, false, (0 : Int), (20 : Int)))))))
                  else
                    atL j9.2.2.2.2.1 j9.2.2.2.2.2.2.1 fun y27 =>
                    bnd (bEq y27.2 (5 : Int)) fun b28 =>
                    if b28 then
                      some (.inr (.inr (.inr (.inr (.inr (false, false, (0 : Int), (21 : Int)))))))
                    else
                      some (.inl (j9.1, j9.2.1, j9.2.2.1, j9.2.2.2.1, j9.2.2.2.2.1, j9.2.2.2.2.2.1, j9.2.2.2.2.2.2.1))
              else
                atL j9.2.2.2.2.1 j9.2.2.2.2.2.2.1 fun y29 =>
                bnd (bEq y29.2 (4 : Int)) fun b30 =>
                if b30 then
                  some (.inr (.inr (.inr (.inr (.inr (false, false, (0 : Int), (20 : Int)))))))
                else
                  atL j9.2.2.2.2.1 j9.2.2.2.2.2.2.1 fun y31 =>
                  bnd (bEq y31.2 (5 : Int)) fun b32 =>
                  if b32 then
                    some (.inr (.inr (.inr (.inr (.inr (false, false, (0 : Int), (21 : Int)))))))
                  else
                    some (.inl (j9.1, j9.2.1, j9.2.2.1, j9.2.2.2.1, j9.2.2.2.2.1, j9.2.2.2.2.2.1, j9.2.2.2.2.2.2.1))
        else
          atL j9.2.2.2.2.1 j9.2.2.2.2.2.2.1 fun y33 =>
          if (bEq y33.2 (2 : Int)) then
            if j9.2.2.1 then
              some (.inr (.inr (.inr (.inr (.inr (true, true, j9.2.2.2.2.2.1, (0 : Int)))))))
            else
              atL j9.2.2.2.2.1 j9.2.2.2.2.2.2.1 fun y34 =>
              if (bEq y34.2 (3 : Int)) then
                if j9.2.2.2.1 then
                  some (.inr (.inr (.inr (.inr (.inr (false, false, (0 : Int), (20 : Int)))))))
                else
                  atL j9.2.2.2.2.1 j9.2.2.2.2.2.2.1 fun y35 =>
                  bnd (bEq y35.2 (4 : Int)) fun b36 =>
                  if b36 then
                    some (.inr (.inr (.inr (.inr (.inr (false, false, (0 : Int), (20 : Int)))))))
                  else
                    atL j9.2.2.2.2.1 j9.2.2.2.2.2.2.1 fun y37 =>
                    bnd (bEq y37.2 (5 : Int)) fun b38 =>
                    if b38 then
                      some (.inr (.inr (.inr (.inr (.inr (false, false, (0 : Int), (21 : Int)))))))
                    else
                      some (.inl (j9.1, j9.2.1, j9.2.2.1, j9.2.2.2.1, j9.2.2.2.2.1, j9.2.2.2.2.2.1, j9.2.2.2.2.2.2.1))
              else
                atL j9.2.2.2.2.1 j9.2.2.2.2.2.2.1 fun y39 =>
                bnd (bEq y39.2 (4 : Int)) fun b40 =>
                if b40 then
                  some (.inr (.inr (.inr (.inr (.inr (false, false, (0 : Int), (20 : Int)))))))
                else
                  atL j9.2.2.2.2.1 j9.2.2.2.2.2.2.1 fun y41 =>
                  bnd (bEq y41.2 (5 : Int)) fun b42 =>
                  if b42 then
                    some (.inr (.inr (.inr (.inr (.inr (false, false, (0 : Int), (21 : Int)))))))
                  else
                    some (.inl (j9.1, j9.2.1, j9.2.2.1, j9.2.2.2.1, j9.2.2.2.2.1, j9.2.2.2.2.2.1, j9.2.2.2.2.2.2.1))
          else
            atL j9.2.2.2.2.1 j9.2.2.2.2.2.2.1 fun y43 =>
            if (bEq y43.2 (3 : Int)) then
              if j9.2.2.2.1 then
                some (.inr (.inr (.inr (.inr (.inr (false, false, (0 : Int), (20 : Int)))))))
              else
                atL j9.2.2.2.2.1 j9.2.2.2.2.2.2.1 fun y44 =>
                bnd (bEq y44.2 (4 : Int)) fun b45 =>
                if b45 then
                  some (.inr (.inr (.inr (.inr (.inr (false, false, (0 : Int), (20 : Int)))))))
                else
                  atL j9.2.2.2.2.1 j9.2.2.2.2.2.2.1 fun y46 =>
                  bnd (bEq y46.2 (5 : Int)) fun b47 =>
                  if b47 then
                    some (.inr (.inr (.inr (.inr (.inr (false, false, (0 : Int), (21 : Int)))))))
                  else
                    some (.inl (j9.1, j9.2.1, j9.2.2.1, j9.2.2.2.1, j9.2.2.2.2.1, j9.2.2.2.2.2.1, j9.2.2.2.2.2.2.1))
            else
              atL j9.2.2.2.2.1 j9.2.2.2.2.2.2.1 fun y48 =>
              bnd (bEq y48.2 (4 : Int)) fun b49 =>
              if b49 then
                some (.inr (.inr (.inr (.inr (.inr (false, false, (0 : Int), (20 : Int)))))))
              else
                atL j9.2.2.2.2.1 j9.2.2.2.2.2.2.1 fun y50 =>
                bnd (bEq y50.2 (5 : Int)) fun b51 =>
                if b51 then
                  some (.inr (.inr (.inr (.inr (.inr (false, false, (0 : Int), (21 : Int)))))))
                else
                  some (.inl (j9.1, j9.2.1, j9.2.2.1, j9.2.2.2.1, j9.2.2.2.2.1, j9.2.2.2.2.2.1, j9.2.2.2.2.2.2.1))
    ) fun j7 =>
    bnd (iAdd .i64 j7.2.2.2.2.2.2 (1 : Int)) fun b52 =>
    some (.inl (j7.1, j7.2.1, j7.2.2.1, j7.2.2.2.1, j7.2.2.2.2.1, j7.2.2.2.2.2.1, b52))
  else
    some (.inr (.inl (s5.1, s5.2.1, s5.2.2.1, s5.2.2.2.1, s5.2.2.2.2.1, s5.2.2.2.2.2.1)))
def stepR (f v : Bool) (t : Int) (x : Ge) : Option Rs := if x.1 = t then decR f v x else none
theorem refF_step (now : Int) (f v : Bool) (l : List Ge) (t : Int) (i : Nat) (hi : i < l.length) (hl : l.length ≤ 1000) :
    refF ((0 : Int), now, f, v, l, t, (i : Int)) = some (nextG ((stepR f v t l[i]).map fun r => .inr (.inr (.inr r))) ((0 : Int), now, f, v, l, t, ((i + 1 : Nat) : Int))) := by
  have hget : l[i]? = some l[i] := List.getElem?_eq_getElem hi
  unfold refF
  dsimp only
  generalize l[i] = x at hget ⊢
  rw [if_pos (bLt_true (by omega)), atL_nat hget]
  unfold stepR
  by_cases ht : x.1 = t
  · rw [if_neg (by rw [bNe_false ht]; simp), if_pos ht]
    subst ht
    unfold decR decS
    by_cases h1 : x.2 = 1
    · have b1 : bEq x.2 1 = true := bEq_true h1
      have b2 : bEq x.2 2 = false := bEq_false (by omega)
      have b3 : bEq x.2 3 = false := bEq_false (by omega)
      have b4 : bEq x.2 4 = false := bEq_false (by omega)
      have b5 : bEq x.2 5 = false := bEq_false (by omega)
      rw [if_neg (show ¬x.2 = 4 by omega), if_neg (show ¬x.2 = 5 by omega), if_neg (show ¬x.2 = 3 by omega), if_neg (show ¬x.2 = 2 by omega), if_pos h1]
      have ha : iAdd .i64 (i : Int) 1 = (i : Int) + 1 := add_i64 (by omega)
      cases f <;> cases v <;> simp [atL_nat hget, b1, b2, b3, b4, b5, ha, nextG]
    by_cases h2 : x.2 = 2
    · have b1 : bEq x.2 1 = false := bEq_false (by omega)
      have b2 : bEq x.2 2 = true := bEq_true h2
      have b3 : bEq x.2 3 = false := bEq_false (by omega)
      have b4 : bEq x.2 4 = false := bEq_false (by omega)
      have b5 : bEq x.2 5 = false := bEq_false (by omega)
      rw [if_neg (show ¬x.2 = 4 by omega), if_neg (show ¬x.2 = 5 by omega), if_neg (show ¬x.2 = 3 by omega), if_pos h2]
      have ha : iAdd .i64 (i : Int) 1 = (i : Int) + 1 := add_i64 (by omega)
      cases f <;> cases v <;> simp [atL_nat hget, b1, b2, b3, b4, b5, ha, nextG]
    by_cases h3 : x.2 = 3
    · have b1 : bEq x.2 1 = false := bEq_false (by omega)
      have b2 : bEq x.2 2 = false := bEq_false (by omega)
      have b3 : bEq x.2 3 = true := bEq_true h3
      have b4 : bEq x.2 4 = false := bEq_false (by omega)
      have b5 : bEq x.2 5 = false := bEq_false (by omega)
      rw [if_neg (show ¬x.2 = 4 by omega), if_neg (show ¬x.2 = 5 by omega), if_pos h3]
      have ha : iAdd .i64 (i : Int) 1 = (i : Int) + 1 := add_i64 (by omega)
      cases f <;> cases v <;> simp [atL_nat hget, b1, b2, b3, b4, b5, ha, nextG]
    by_cases h4 : x.2 = 4
    · have b1 : bEq x.2 1 = false := bEq_false (by omega)
      have b2 : bEq x.2 2 = false := bEq_false (by omega)
      have b3 : bEq x.2 3 = false := bEq_false (by omega)
      have b4 : bEq x.2 4 = true := bEq_true h4
      have b5 : bEq x.2 5 = false := bEq_false (by omega)
      rw [if_pos h4]
      have ha : iAdd .i64 (i : Int) 1 = (i : Int) + 1 := add_i64 (by omega)
      cases f <;> cases v <;> simp [atL_nat hget, b1, b2, b3, b4, b5, ha, nextG]
    by_cases h5 : x.2 = 5
    · have b1 : bEq x.2 1 = false := bEq_false (by omega)
      have b2 : bEq x.2 2 = false := bEq_false (by omega)
      have b3 : bEq x.2 3 = false := bEq_false (by omega)
      have b4 : bEq x.2 4 = false := bEq_false (by omega)
      have b5 : bEq x.2 5 = true := bEq_true h5
      rw [if_neg (show ¬x.2 = 4 by omega), if_pos h5]
      have ha : iAdd .i64 (i : Int) 1 = (i : Int) + 1 := add_i64 (by omega)
      cases f <;> cases v <;> simp [atL_nat hget, b1, b2, b3, b4, b5, ha, nextG]
    have b1 : bEq x.2 1 = false := bEq_false h1
    have b2 : bEq x.2 2 = false := bEq_false h2
    have b3 : bEq x.2 3 = false := bEq_false h3
    have b4 : bEq x.2 4 = false := bEq_false h4
    have b5 : bEq x.2 5 = false := bEq_false h5
    rw [if_neg h4, if_neg h5, if_neg h3, if_neg h2, if_neg h1]
    have ha : iAdd .i64 (i : Int) 1 = (i : Int) + 1 := add_i64 (by omega)
    cases f <;> cases v <;> simp [atL_nat hget, b1, b2, b3, b4, b5, ha, nextG]
  · rw [if_pos (bNe_true ht), if_neg ht, jn_inl]
    dsimp only
    rw [bnd_eq, add_i64 (by omega)]
    rfl
theorem nilF {p : Ge → Bool} (s : List Ge) (h : ∀ x, p x = true → False) : s.filter p = [] := List.filter_eq_nil_iff.2 fun x _ hx => h x hx
theorem scan_eq {α β : Type} (l : List Ge) (h : Ge → Option β) (a : α) (lo : Int) (g : Nat → Option (α ⊕ β)) (hg : ∀ k, g k = ((l.filter (fun x => x.1 == lo + (k : Int))).findSome? h).map Sum.inr) :
    ∀ n i, firstG g (.inl a) i n = match ((sortG l).filter fun x => decide (lo + (i : Int) ≤ x.1 ∧ x.1 < lo + (i : Int) + (n : Int))).findSome? h with | some r => .inr r | none => .inl a
  | 0, i => by
    rw [nilF (sortG l) (fun x hx => by have := of_decide_eq_true hx; omega)]
    rfl
  | n + 1, i => by
    have e : ((sortG l).filter fun x => decide (lo + (i : Int) ≤ x.1 ∧ x.1 < lo + (i : Int) + ((n + 1 : Nat) : Int))) = (l.filter (fun x => x.1 == lo + (i : Int))) ++ ((sortG l).filter fun x => decide (lo + ((i + 1 : Nat) : Int) ≤ x.1 ∧ x.1 < lo + ((i + 1 : Nat) : Int) + (n : Int))) := by
      rw [← sort_filter (lo + (i : Int)) l]
      have hs := sort_asc l
      generalize sortG l = s at hs
      refine asc_unique _ _ (asc_filter _ hs) (List.pairwise_append.2 ⟨asc_filter _ hs, asc_filter _ hs, fun u hu w hw => ?_⟩) fun t => ?_
      · have hu := (List.mem_filter.1 hu).2
        have hw := of_decide_eq_true (List.mem_filter.1 hw).2
        have hu : u.1 = lo + (i : Int) := by simpa using hu
        omega
      · rw [List.filter_append, List.filter_filter, List.filter_filter, List.filter_filter]
        by_cases c : t = lo + (i : Int)
        · rw [nilF (p := fun x => x.1 == t && decide (lo + ((i + 1 : Nat) : Int) ≤ x.1 ∧ x.1 < lo + ((i + 1 : Nat) : Int) + (n : Int))) s (fun x hx => by simp only [Bool.and_eq_true, beq_iff_eq, decide_eq_true_eq] at hx; omega), List.append_nil]
          refine List.filter_congr fun x _ => ?_
          rw [Bool.eq_iff_iff]
          simp only [Bool.and_eq_true, beq_iff_eq, decide_eq_true_eq]
          omega
        · rw [nilF (p := fun x => x.1 == t && x.1 == lo + (i : Int)) s (fun x hx => by simp only [Bool.and_eq_true, beq_iff_eq] at hx; omega), List.nil_append]
          refine List.filter_congr fun x _ => ?_
          rw [Bool.eq_iff_iff]
          simp only [Bool.and_eq_true, beq_iff_eq, decide_eq_true_eq]
          omega
    rw [e, List.findSome?_append]
    simp only [firstG]
    rw [hg i]
    cases (l.filter (fun x => x.1 == lo + (i : Int))).findSome? h with
    | some r => rfl
    | none => exact scan_eq l h a lo g hg n (i + 1)
theorem refInner (now : Int) (f v : Bool) (l : List Ge) (t : Int) (hl : l.length ≤ 1000) :
    loopLim refF ((0 : Int), now, f, v, l, t, (0 : Int)) = some (match (l.filter (fun x => x.1 == t)).findSome? (decR f v) with | some r => .inr (.inr (.inr r)) | none => .inl ((0 : Int), now, f, v, l, t)) := by
  refine (loopLim_first0 (fun i => ((0 : Int), now, f, v, l, t, (i : Int))) (fun i => (stepR f v t (l.getD i (0, 0))).map fun r => .inr (.inr (.inr r))) (.inl ((0 : Int), now, f, v, l, t)) l.length rfl (fun i hi => by rw [getD_get hi]; exact refF_step now f v l t i hi hl) (by unfold refF; dsimp only; rw [if_neg (by simp [bLt])])).trans ?_
  have := firstG_find l (fun x => (stepR f v t x).map fun r => (Sum.inr (Sum.inr r) : (Int × Int × Bool × Bool × List Ge × Int) ⊕ Int ⊕ Rs)) ((0 : Int), now, f, v, l, t) (fun i => (stepR f v t (l.getD i (0, 0))).map fun r => .inr (.inr (.inr r))) (fun i hi => by rw [getD_get hi]; cases stepR f v t l[i] <;> rfl) l.length 0 (by omega)
  rw [this, List.drop_zero]
  have e : l.findSome? (fun x => (stepR f v t x).map fun r => (Sum.inr (Sum.inr r) : (Int × Int × Bool × Bool × List Ge × Int) ⊕ Int ⊕ Rs)) = ((l.filter (fun x => x.1 == t)).findSome? (decR f v)).map fun r => Sum.inr (Sum.inr r) := by
    clear this hl
    induction l with
    | nil => rfl
    | cons x l ih =>
      rw [List.findSome?_cons, List.filter_cons, ih]
      unfold stepR
      by_cases c : x.1 = t
      · rw [if_pos c, if_pos (by simpa using c), List.findSome?_cons]
        cases decR f v x <;> rfl
      · rw [if_neg c, if_neg (by simpa using c)]
        rfl
  rw [e]
  cases (l.filter (fun x => x.1 == t)).findSome? (decR f v) <;> rfl
theorem refAwait_eq (now : Int) (f v : Bool) (l : List Ge) (hl : l.length ≤ 1000) : sh_passkeyref10_Await (now, f, v, l) = some (awaitS now f v l) := by
  unfold sh_passkeyref10_Await awaitS
  dsimp only
  by_cases c1 : bLt now 0 = true
  · rw [if_pos c1, if_pos c1]; rfl
  rw [if_neg c1, if_neg c1]
  by_cases c2 : bGt now 1099511627776 = true
  · rw [if_pos c2, if_pos c2]; rfl
  rw [if_neg c2, if_neg c2, jn_inl]
  have k1 : 0 ≤ now := by have := mt bLt_true c1; omega
  have k2 : now ≤ 1099511627776 := by have := mt bGt_true c2; omega
  dsimp only
  by_cases c3 : v = true ∧ f = false
  · obtain ⟨rfl, rfl⟩ := c3
    rfl
  rw [if_neg c3]
  refine jn_of13 (a := ((0 : Int), now, f, v, l)) (by
    cases v
    · rfl
    · cases f
      · exact absurd ⟨rfl, rfl⟩ c3
      · rfl) ?_
  dsimp only
  have hlim : iMin (iAdd .i64 now 30) 1099511627776 = min (now + 30) 1099511627776 := by rw [add_i64 (by omega)]; unfold iMin; omega
  obtain ⟨n, hn⟩ : ∃ n : Nat, min (now + 30) 1099511627776 = now + (n : Int) := ⟨(min (now + 30) 1099511627776 - now).toNat, by omega⟩
  rw [add_i64 (by omega), bnd_eq]
  refine jn_first (fun k => ((0 : Int), now, f, v, l, now + 1 + (k : Int))) (fun k => ((l.filter (fun x => x.1 == now + 1 + (k : Int))).findSome? (decR f v)).map Sum.inr) (.inl 0) n (by simp) (fun k hk => ?_) (by dsimp only; rw [hlim, hn, if_neg (by rw [bLe_false (by omega)]; simp)]) ?_
  · dsimp only
    rw [hlim, hn, if_pos (bLe_true (by omega))]
    have hI := refInner now f v l (now + 1 + (k : Int)) hl
    cases hc : (l.filter (fun x => x.1 == now + 1 + (k : Int))).findSome? (decR f v) with
    | some r =>
      rw [hc] at hI
      exact (congrArg (fun z => jn z _) hI).trans rfl
    | none =>
      rw [hc] at hI
      refine (congrArg (fun z => jn z _) hI).trans ?_
      dsimp only
      rw [jn_inl]
      dsimp only
      rw [bnd_eq, add_i64 (by omega), show now + 1 + (k : Int) + 1 = now + 1 + ((k + 1 : Nat) : Int) from by omega]
      rfl
  · rw [scan_eq l (decR f v) (0 : Int) (now + 1) _ (fun k => rfl) n 0]
    unfold resA
    have e : ((sortG l).filter fun x => decide (now + 1 + ((0 : Nat) : Int) ≤ x.1 ∧ x.1 < now + 1 + ((0 : Nat) : Int) + (n : Int))) = (sortG l).filter (inW now) := by
      refine List.filter_congr fun x _ => ?_
      unfold inW
      rw [hlim, hn, decide_eq_decide]
      omega
    rw [e]
    cases ((sortG l).filter (inW now)).findSome? (decR f v) <;> rfl

theorem ConsentAwaits_true (x : Int × Bool × Bool × List Ge × List Int × Int) (h : Goods [.int .i64, .bool, .bool, .list (.st (.pair (.int .i64) (.int .i64))), .list (.int .u16), .int .u16] x) : sh_passkeylaw13_ConsentAwaits x = some true := by
  obtain ⟨now, f, v, l, m, n⟩ := x
  obtain ⟨_, _, _, _, _, g6, _⟩ := goods_all h
  have hn : 0 ≤ n ∧ n ≤ 65535 := good_u16.1 g6
  clear g6 h
  unfold sh_passkeylaw13_ConsentAwaits
  dsimp only
  by_cases c : l.length ≤ 50
  · rw [if_neg (by rw [bGt_false (by omega)]; simp), bnd_eq]
    have hs : iAnd .u16 (iShr .u16 n 12) 3 = n / 4096 % 4 := by
      have e := shr_eq .u16 n 12 (by decide)
      rw [show ((12 : Nat) : Int) = 12 from rfl, show (2 : Int) ^ 12 = 4096 from rfl] at e
      rw [e, and_3 _ .u16]
    rw [hs, reqP_pos (by simp only [List.length_set, List.length_replicate]; omega), bnd_eq]
    generalize List.getD _ _ _ = at'
    have hm := made_len at' m
    rw [Await_of now f v l (by omega) (SortStable50 l c), Option.bind_some, refAwait_eq now f v l (by omega), Option.bind_some, made_eq, Option.bind_some, Await_eq at' f v _ (by omega), Option.bind_some, Option.bind_some, refAwait_eq at' f v _ (by omega), Option.bind_some]
    generalize awaitS now f v l = r
    generalize awaitS at' f v (madeS at' m) = r'
    rw [if_pos (same_rs r), if_pos (bEq_self _), if_pos (same_rs r'), if_pos (bEq_self _), awake13_true, Option.bind_some]
  · rw [if_pos (bGt_true (by omega)), awake13_true, Option.bind_some]
end Go.Vm
