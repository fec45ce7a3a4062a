/- Plain laws about what the functions compute. -/
import Derived.Test.YtjfiohdaeahdmaaConsentWindowP
/- One-time signatures: the digits of a word. -/
namespace Go.Vm

end Go.Vm
/- The hash: program and reference compute the same. -/
namespace Go.Vm

def rotl (x : Int) (k : Nat) : Int := iOr .u64 (iShl .u64 x (k : Int)) (iShr .u64 x ((64 - k : Nat) : Int))
/-- The state of the hash. -/
structure Sip where
  a : Int
  b : Int
  c : Int
  d : Int
def Sip.t (v : Sip) : Int × Int × Int × Int := (v.a, v.b, v.c, v.d)
def Sip.round (v : Sip) : Sip :=
  let a1 := iAdd .u64 v.a v.b
  let b1 := iXor .u64 (rotl v.b 13) a1
  let a2 := rotl a1 32
  let c1 := iAdd .u64 v.c v.d
  let d1 := iXor .u64 (rotl v.d 16) c1
  let a3 := iAdd .u64 a2 d1
  let d2 := iXor .u64 (rotl d1 21) a3
  let c2 := iAdd .u64 c1 b1
  let b2 := iXor .u64 (rotl b1 17) c2
  ⟨a3, b2, rotl c2 32, d2⟩
def Sip.rounds (v : Sip) : Nat → Sip
  | 0 => v
  | n + 1 => (v.rounds n).round
section
variable (a b c d x : Int)
@[simp] theorem rd4_0 : arrRd (0 : Int) (⟨[a, b, c, d], rfl⟩ : Arr 4 Int) 0 = a := rfl
@[simp] theorem rd4_1 : arrRd (0 : Int) (⟨[a, b, c, d], rfl⟩ : Arr 4 Int) 1 = b := rfl
@[simp] theorem rd4_2 : arrRd (0 : Int) (⟨[a, b, c, d], rfl⟩ : Arr 4 Int) 2 = c := rfl
@[simp] theorem rd4_3 : arrRd (0 : Int) (⟨[a, b, c, d], rfl⟩ : Arr 4 Int) 3 = d := rfl
@[simp] theorem wr4_0 : arrWr (⟨[a, b, c, d], rfl⟩ : Arr 4 Int) 0 x = ⟨[x, b, c, d], rfl⟩ := rfl
@[simp] theorem wr4_1 : arrWr (⟨[a, b, c, d], rfl⟩ : Arr 4 Int) 1 x = ⟨[a, x, c, d], rfl⟩ := rfl
@[simp] theorem wr4_2 : arrWr (⟨[a, b, c, d], rfl⟩ : Arr 4 Int) 2 x = ⟨[a, b, x, d], rfl⟩ := rfl
@[simp] theorem wr4_3 : arrWr (⟨[a, b, c, d], rfl⟩ : Arr 4 Int) 3 x = ⟨[a, b, c, x], rfl⟩ := rfl
end
section
variable {ρ : Type} (y : Option ρ)
@[simp] theorem req4_0 : reqP ((0 : Int) ≤ 0 ∧ (0 : Int) < 4) y = y := reqP_pos (by decide) y
@[simp] theorem req4_1 : reqP ((0 : Int) ≤ 1 ∧ (1 : Int) < 4) y = y := reqP_pos (by decide) y
@[simp] theorem req4_2 : reqP ((0 : Int) ≤ 2 ∧ (2 : Int) < 4) y = y := reqP_pos (by decide) y
@[simp] theorem req4_3 : reqP ((0 : Int) ≤ 3 ∧ (3 : Int) < 4) y = y := reqP_pos (by decide) y
end
/-! ### Words of bytes, the least first -/
def Bytes (l : List Int) : Prop := ∀ x ∈ l, 0 ≤ x ∧ x ≤ 255
end Go.Vm
/- The hash of bytes: program and reference compute the same. -/
namespace Go.Vm

theorem Bytes.drop {b : List Int} (h : Bytes b) (n : Nat) : Bytes (b.drop n) := fun y hy => h y (List.mem_of_mem_drop hy)
end Go.Vm
/- One-time signatures: words, chains, signatures. -/
namespace Go.Vm

/-! ### Words -/
/-! ### Hash, Mac -/
/-! ### Chains -/
end Go.Vm
/- Leases: program and reference compute the same. -/
namespace Go.Vm

/-! ### Loops that look for something -/
section
variable {σ α : Type}
def nextG (o : Option α) (s : σ) : σ ⊕ α := match o with
  | some a => .inr a
  | none => .inl s
/-- The first answer of the rounds from i on. -/
def firstG (g : Nat → Option α) (e : α) (i : Nat) : Nat → α
  | 0 => e
  | n + 1 => match g i with
    | some a => a
    | none => firstG g e (i + 1) n
theorem loopLim_first {f : σ → Option (σ ⊕ α)} (st : Nat → σ) (g : Nat → Option α) (e : α) (N : Nat) (h : ∀ i, i < N → f (st i) = some (nextG (g i) (st (i + 1)))) (he : f (st N) = some (.inr e)) : ∀ n i, i + n = N → loopLim f (st i) = some (firstG g e i n)
  | 0, i, hi => by
    have : i = N := by omega
    subst this
    exact loopLim_end he
  | n + 1, i, hi => by
    have h1 := h i (by omega)
    simp only [firstG]
    cases hg : g i with
    | some a =>
      rw [hg] at h1
      exact loopLim_end h1
    | none =>
      rw [hg] at h1
      rw [loopLim_next h1]
      exact loopLim_first st g e N h he n (i + 1) (by omega)
theorem loopLim_first0 {f : σ → Option (σ ⊕ α)} {s : σ} (st : Nat → σ) (g : Nat → Option α) (e : α) (N : Nat) (h0 : s = st 0) (h : ∀ i, i < N → f (st i) = some (nextG (g i) (st (i + 1)))) (he : f (st N) = some (.inr e)) : loopLim f s = some (firstG g e 0 N) := by
  rw [h0]
  exact loopLim_first st g e N h he N 0 (by omega)
theorem jn_first {ρ : Type} {f : σ → Option (σ ⊕ (α ⊕ ρ))} {s : σ} {k : α → Option ρ} {R : Option ρ} (st : Nat → σ) (g : Nat → Option (α ⊕ ρ)) (e : α ⊕ ρ) (N : Nat) (h0 : s = st 0) (h : ∀ i, i < N → f (st i) = some (nextG (g i) (st (i + 1)))) (he : f (st N) = some (.inr e)) (hk : jn (some (firstG g e 0 N)) k = R) : jn (loopLim f s) k = R := by
  rw [loopLim_first0 st g e N h0 h he]
  exact hk
end

/-! ### Validity, the index of a tag -/
theorem getD_get {α : Type} {l : List α} {i : Nat} {d : α} (h : i < l.length) : l.getD i d = l[i] := by
  rw [List.getD_eq_getElem?_getD, List.getElem?_eq_getElem h, Option.getD_some]
/-! ### The law's own list -/
end Go.Vm
/- Consent: the sort by insertion. -/
namespace Go.Vm

abbrev Ge := Int × Int
/-- One round of the inner loop. -/
def insF (s3 : (List (Int × Int)) × Int × Int × Int × Int) : Option (((List (Int × Int)) × Int × Int × Int × Int) ⊕ (((List (Int × Int)) × Int × Int × Int) ⊕ (((List (Int × Int)) × Int × Int × Int) ⊕ ((List (Int × Int)) ⊕ (List (Int × Int)))))) :=
  jn (α := ((List (Int × Int)) × Int × Int × Int × Int × Int × Nat × Int × Int × Int × Int × Nat × Int × Int × Int × Bool)) (ρ := (((List (Int × Int)) × Int × Int × Int × Int) ⊕ (((List (Int × Int)) × Int × Int × Int) ⊕ (((List (Int × Int)) × Int × Int × Int) ⊕ ((List (Int × Int)) ⊕ (List (Int × Int))))))) (
    if (bGt s3.2.2.2.2 s3.2.1) then
      reqP (0 ≤ s3.2.2.2.2 ∧ s3.2.2.2.2 < (s3.1.length : Int)) <|
      reqP (0 ≤ (iSub .i64 s3.2.2.2.2 (1 : Int)) ∧ (iSub .i64 s3.2.2.2.2 (1 : Int)) < (s3.1.length : Int)) <|
      Option.bind (sh_consent_Await_1 (((s3.1.getD s3.2.2.2.2.toNat ((0 : Int), (0 : Int))).1, (s3.1.getD s3.2.2.2.2.toNat ((0 : Int), (0 : Int))).2), ((s3.1.getD (iSub .i64 s3.2.2.2.2 (1 : Int)).toNat ((0 : Int), (0 : Int))).1, (s3.1.getD (iSub .i64 s3.2.2.2.2 (1 : Int)).toNat ((0 : Int), (0 : Int))).2))) fun r6 =>
      if (bLt r6 (0 : Int)) then
        some (.inl (s3.1, s3.2.1, s3.2.2.1, s3.2.2.2.1, s3.2.2.2.2, s3.2.2.2.2, s3.2.2.2.2.toNat, (s3.1.getD s3.2.2.2.2.toNat ((0 : Int), (0 : Int))).1, (s3.1.getD s3.2.2.2.2.toNat ((0 : Int), (0 : Int))).2, s3.2.2.2.2, (iSub .i64 s3.2.2.2.2 (1 : Int)), (iSub .i64 s3.2.2.2.2 (1 : Int)).toNat, (s3.1.getD (iSub .i64 s3.2.2.2.2 (1 : Int)).toNat ((0 : Int), (0 : Int))).1, (s3.1.getD (iSub .i64 s3.2.2.2.2 (1 : Int)).toNat ((0 : Int), (0 : Int))).2, r6, (bLt r6 (0 : Int))))
      else
        some (.inr (.inr (.inl (s3.1, s3.2.1, s3.2.2.1, s3.2.2.2.1))))
    else
      some (.inr (.inr (.inl (s3.1, s3.2.1, s3.2.2.1, s3.2.2.2.1))))
  ) fun j5 =>
  reqP (0 ≤ (iSub .i64 j5.2.2.2.2.1 (1 : Int)) ∧ (iSub .i64 j5.2.2.2.2.1 (1 : Int)) < (j5.1.length : Int)) <|
  reqP (0 ≤ j5.2.2.2.2.1 ∧ j5.2.2.2.2.1 < (j5.1.length : Int)) <|
  reqP (0 ≤ j5.2.2.2.2.1 ∧ j5.2.2.2.2.1 < (j5.1.length : Int)) <|
  bnd (j5.1.set j5.2.2.2.2.1.toNat ((j5.1.getD (iSub .i64 j5.2.2.2.2.1 (1 : Int)).toNat ((0 : Int), (0 : Int))).1, (j5.1.getD (iSub .i64 j5.2.2.2.2.1 (1 : Int)).toNat ((0 : Int), (0 : Int))).2)) fun b7 =>
  reqP (0 ≤ (iSub .i64 j5.2.2.2.2.1 (1 : Int)) ∧ (iSub .i64 j5.2.2.2.2.1 (1 : Int)) < (b7.length : Int)) <|
  bnd (b7.set (iSub .i64 j5.2.2.2.2.1 (1 : Int)).toNat ((j5.1.getD j5.2.2.2.2.1.toNat ((0 : Int), (0 : Int))).1, (j5.1.getD j5.2.2.2.2.1.toNat ((0 : Int), (0 : Int))).2)) fun b8 =>
  bnd (iSub .i64 j5.2.2.2.2.1 (1 : Int)) fun b9 =>
  some (.inl (b8, j5.2.1, j5.2.2.1, j5.2.2.2.1, b9))

def insRev : List Ge → Ge → List Ge
  | [], x => [x]
  | y :: r, x => if x.1 < y.1 then y :: insRev r x else x :: y :: r
def sortG (l : List Ge) : List Ge := (l.foldl insRev []).reverse
theorem insRev_len (x : Ge) : ∀ r, (insRev r x).length = r.length + 1
  | [] => rfl
  | y :: r => by
    unfold insRev
    split
    · rw [List.length_cons, insRev_len x r]; rfl
    · rfl
theorem fold_len : ∀ (l r : List Ge), (l.foldl insRev r).length = r.length + l.length
  | [], r => rfl
  | x :: l, r => by rw [List.foldl_cons, fold_len l, insRev_len, List.length_cons]; omega
theorem sortG_len (l : List Ge) : (sortG l).length = l.length := by unfold sortG; rw [List.length_reverse, fold_len]; simp
theorem isNaN_eq (x : Int) : sh_cmp_isNaN_int_ x = some false := by
  unfold sh_cmp_isNaN_int_
  rw [bNe_self]; rfl
def cmpG (a b : Int) : Int := if a < b then -1 else if b < a then 1 else 0
theorem Await1_eq (a b : Ge) : sh_consent_Await_1 (a, b) = some (cmpG a.1 b.1) := by
  unfold sh_consent_Await_1 sh_cmp_Compare_int_ cmpG
  dsimp only
  rw [isNaN_eq, isNaN_eq, Option.bind_some, Option.bind_some, if_neg (by simp), if_neg (by simp)]
  by_cases h : a.1 < b.1
  · rw [if_pos (bLt_true h), if_pos h]; rfl
  · rw [if_neg (by rw [bLt_false (by omega)]; simp), if_neg h]
    by_cases k : b.1 < a.1
    · rw [if_pos (bGt_true k), if_pos k]; rfl
    · rw [if_neg (by rw [bGt_false (by omega)]; simp), if_neg k]; rfl
theorem get_mid {A q : List Ge} {y : Ge} {n : Nat} {d : Ge} (h : n = A.length) : (A ++ y :: q).getD n d = y := by
  subst h
  simp [List.getD_eq_getElem?_getD]
theorem set_mid {A q : List Ge} {y z : Ge} {n : Nat} (h : n = A.length) : (A ++ y :: q).set n z = A ++ z :: q := by
  subst h
  simp [List.set_append]
theorem inner_eq (base : List Ge) (b i : Int) (x : Ge) : ∀ (pr q : List Ge), base.length + pr.length + q.length ≤ 1000000 →
    loopLim insF (base ++ pr.reverse ++ x :: q, (base.length : Int), b, i, ((base.length + pr.length : Nat) : Int)) = some (.inl (base ++ (insRev pr x).reverse ++ q, (base.length : Int), b, i))
  | [], q, hl => by
    refine loopLim_end ?_
    unfold insF
    dsimp only
    rw [if_neg (by rw [bGt_false (by simp)]; simp), jn_inr]
    simp [insRev]
  | y :: pr, q, hl => by
    have hA : base ++ (y :: pr).reverse ++ x :: q = (base ++ pr.reverse) ++ y :: x :: q := by simp
    have hA2 : (base ++ pr.reverse) ++ y :: x :: q = (base ++ pr.reverse ++ [y]) ++ x :: q := by simp
    rw [hA]
    rw [List.length_cons] at hl ⊢
    have hlen : (base ++ pr.reverse ++ y :: x :: q).length = base.length + pr.length + 2 + q.length := by simp; omega
    have hAl : (base ++ pr.reverse).length = base.length + pr.length := by simp
    have g1 : (base ++ pr.reverse ++ y :: x :: q).getD (base.length + (pr.length + 1)) ((0 : Int), (0 : Int)) = x := by rw [hA2]; exact get_mid (by simp)
    have g2 : (base ++ pr.reverse ++ y :: x :: q).getD (base.length + pr.length) ((0 : Int), (0 : Int)) = y := get_mid (by simp)
    have e1 : iSub .i64 ((base.length + (pr.length + 1) : Nat) : Int) 1 = ((base.length + pr.length : Nat) : Int) := by rw [sub_i64 (by omega)]; omega
    have hc : cmpG x.1 y.1 < 0 ↔ x.1 < y.1 := by unfold cmpG; constructor <;> intro h <;> (repeat' split at *) <;> omega
    have step : insF (base ++ pr.reverse ++ y :: x :: q, (base.length : Int), b, i, ((base.length + (pr.length + 1) : Nat) : Int)) = if x.1 < y.1 then some (.inl (base ++ pr.reverse ++ x :: y :: q, (base.length : Int), b, i, ((base.length + pr.length : Nat) : Int))) else some (.inr (.inl (base ++ pr.reverse ++ y :: x :: q, (base.length : Int), b, i))) := by
      unfold insF
      dsimp only
      rw [if_pos (bGt_true (by omega)), e1, Int.toNat_natCast, Int.toNat_natCast, g1, g2, reqP_pos (by rw [hlen]; omega), reqP_pos (by rw [hlen]; omega), Await1_eq, Option.bind_some]
      dsimp only
      by_cases h : x.1 < y.1
      · rw [if_pos (bLt_true (hc.2 h)), if_pos h, jn_inl]
        dsimp only
        rw [e1, Int.toNat_natCast, Int.toNat_natCast, g1, g2, reqP_pos (by rw [hlen]; omega), reqP_pos (by rw [hlen]; omega), reqP_pos (by rw [hlen]; omega), bnd_eq, reqP_pos (by rw [List.length_set, hlen]; omega), bnd_eq, bnd_eq]
        have s1 : ((base ++ pr.reverse ++ y :: x :: q).set (base.length + (pr.length + 1)) (y.1, y.2)).set (base.length + pr.length) (x.1, x.2) = base ++ pr.reverse ++ x :: y :: q := by
          have : (base ++ pr.reverse ++ y :: x :: q).set (base.length + (pr.length + 1)) (y.1, y.2) = base ++ pr.reverse ++ y :: y :: q := by
            rw [hA2, set_mid (by simp)]; simp
          rw [this, set_mid (by simp)]
        rw [s1]
      · rw [if_neg (by rw [bLt_false (by have := mt hc.1 h; omega)]; simp), if_neg h, jn_inr]
    unfold insRev
    by_cases h : x.1 < y.1
    · rw [if_pos h] at step ⊢
      rw [loopLim_next step, inner_eq base b i x pr (y :: q) (by rw [List.length_cons]; omega)]
      simp
    · rw [if_neg h] at step ⊢
      rw [loopLim_end step]
      simp
noncomputable def outF (s1 : (List (Int × Int)) × Int × Int × Int) : Option (((List (Int × Int)) × Int × Int × Int) ⊕ ((List (Int × Int)) ⊕ (List (Int × Int)))) :=
    if (bLt s1.2.2.2 s1.2.2.1) then
      jn (α := ((List (Int × Int)) × Int × Int × Int)) (ρ := (((List (Int × Int)) × Int × Int × Int) ⊕ ((List (Int × Int)) ⊕ (List (Int × Int))))) (loopLim insF (s1.1, s1.2.1, s1.2.2.1, s1.2.2.2, s1.2.2.2)) fun j4 =>
      bnd (iAdd .i64 j4.2.2.2 (1 : Int)) fun b10 =>
      some (.inl (j4.1, j4.2.1, j4.2.2.1, b10))
    else
      some (.inr (.inl s1.1))
theorem outer_eq (base rest : List Ge) : ∀ (rem pr : List Ge) (b i : Int), base.length + pr.length + rem.length + rest.length ≤ 100000 → i = ((base.length + pr.length : Nat) : Int) → b = ((base.length + pr.length + rem.length : Nat) : Int) →
    loopLim outF (base ++ pr.reverse ++ (rem ++ rest), (base.length : Int), b, i) = some (.inl (base ++ (rem.foldl insRev pr).reverse ++ rest))
  | [], pr, b, i, hl, hi, hb => by
    rw [loopLim_end (a := .inl (base ++ pr.reverse ++ ([] ++ rest))) (by unfold outF; dsimp only; rw [if_neg (by rw [bLt_false (by rw [hi, hb]; simp)]; simp)])]
    simp
  | x :: rem, pr, b, i, hl, hi, hb => by
    rw [List.length_cons] at hl hb
    rw [loopLim_next (s' := (base ++ (insRev pr x).reverse ++ (rem ++ rest), (base.length : Int), b, i + 1)) (by
      unfold outF
      dsimp only
      rw [if_pos (bLt_true (by omega)), hi, List.cons_append, inner_eq base b _ x pr (rem ++ rest) (by rw [List.length_append]; omega), jn_inl]
      dsimp only
      rw [bnd_eq, add_i64 (by omega)])]
    rw [outer_eq base rest rem (insRev pr x) b (i + 1) (by rw [insRev_len]; omega) (by rw [insRev_len]; omega) (by rw [insRev_len]; omega)]
    rfl
end Go.Vm
/- Consent: sorting, what is true of it. -/
namespace Go.Vm

theorem InsSort_eq (l : List Ge) (hl : l.length ≤ 100000) : sh_slices_insertionSortCmpFunc_passkey_api_Gesture_ (l, 0, (l.length : Int)) = some (sortG l) := by
  unfold sh_slices_insertionSortCmpFunc_passkey_api_Gesture_
  dsimp only
  rw [add_i64 (by omega), bnd_eq]
  refine Eq.trans (b := jn (loopLim outF (l, 0, (l.length : Int), 0 + 1)) fun j2 => reqP (l.length = j2.length) (some j2)) rfl ?_
  have h : loopLim outF (l, 0, (l.length : Int), 0 + 1) = some (.inl (sortG l)) := by
    cases l with
    | nil => exact loopLim_end (by unfold outF; dsimp only; rw [if_neg (by decide)]; rfl)
    | cons x rem =>
      have h := outer_eq [] [] rem [x] ((rem.length + 1 : Nat) : Int) 1 (by simp at hl ⊢; omega) (by simp) (by simp; omega)
      have e : ([] : List Ge) ++ [x].reverse ++ (rem ++ []) = x :: rem := by simp
      have e2 : ([] : List Ge) ++ (rem.foldl insRev [x]).reverse ++ [] = sortG (x :: rem) := by simp [sortG, insRev]
      rw [e, e2] at h
      exact h
  rw [h, jn_inl, reqP_pos (sortG_len l).symm]
theorem Stable_eq (l : List Ge) (hl : l.length < 20) : sh_slices_stableCmpFunc_passkey_api_Gesture_ (l, (l.length : Int)) = some (sortG l) := by
  unfold sh_slices_stableCmpFunc_passkey_api_Gesture_
  dsimp only
  rw [bnd_eq, loopLim_end (a := .inl (l, (l.length : Int), 20, 0)) (by dsimp only; rw [if_neg (by rw [bLe_false (by omega)]; simp)]), jn_inl]
  dsimp only
  rw [InsSort_eq l (by omega), Option.bind_some, loopLim_end (a := .inl (sortG l)) (by dsimp only; rw [if_neg (by rw [bLt_false (by omega)]; simp)]), jn_inl, reqP_pos (sortG_len l).symm]
theorem SortStable_eq (l : List Ge) (hl : l.length < 20) : sh_slices_SortStableFunc___passkey_api_Gesture_passkey_api_Gesture_ l = some (sortG l) := by
  unfold sh_slices_SortStableFunc___passkey_api_Gesture_passkey_api_Gesture_
  rw [Stable_eq l hl, Option.bind_some, reqP_pos (sortG_len l).symm]

/-! ### In order, and stable -/
theorem insRev_filter (p : Ge → Bool) (x : Ge) (hp : ∀ y, p y = true → p x = true → ¬ x.1 < y.1) : ∀ r, (insRev r x).filter p = [x].filter p ++ r.filter p
  | [] => by simp [insRev]
  | y :: r => by
    unfold insRev
    split
    · rename_i h
      rw [List.filter_cons, insRev_filter p x hp r, List.filter_cons, List.filter_cons]
      by_cases a : p y = true
      · have b : p x = false := by
          cases b : p x with
          | false => rfl
          | true => exact absurd h (hp y a b)
        rw [if_pos a, b, if_neg (by simp), if_pos a]
        rfl
      · rw [if_neg a, if_neg a]
    · cases h : p x <;> simp [List.filter_cons, h]
theorem fold_filter (p : Ge → Bool) (hp : ∀ x y, p y = true → p x = true → ¬ x.1 < y.1) : ∀ (l r : List Ge), (l.foldl insRev r).filter p = (l.filter p).reverse ++ r.filter p
  | [], r => rfl
  | x :: l, r => by
    rw [List.foldl_cons, fold_filter p hp l, insRev_filter p x (hp x), List.filter_cons, List.filter_cons, List.filter_nil]
    split
    · simp
    · simp
theorem sort_filter (t : Int) (l : List Ge) : (sortG l).filter (fun x => x.1 == t) = l.filter (fun x => x.1 == t) := by
  unfold sortG
  rw [List.filter_reverse, fold_filter _ (fun x y hx hy => by
    have hx : y.1 = t := by simpa using hx
    have hy : x.1 = t := by simpa using hy
    omega)]
  simp
theorem insRev_mem (x : Ge) {z : Ge} : ∀ r, z ∈ insRev r x ↔ z = x ∨ z ∈ r
  | [] => by simp [insRev]
  | y :: r => by
    unfold insRev
    split
    · rw [List.mem_cons, insRev_mem x r, List.mem_cons]
      constructor
      · rintro (h | h | h)
        · exact .inr (.inl h)
        · exact .inl h
        · exact .inr (.inr h)
      · rintro (h | h | h)
        · exact .inr (.inl h)
        · exact .inl h
        · exact .inr (.inr h)
    · rw [List.mem_cons, List.mem_cons]
def Desc (r : List Ge) : Prop := r.Pairwise fun a b => b.1 ≤ a.1
theorem insRev_desc (x : Ge) : ∀ r, Desc r → Desc (insRev r x)
  | [], _ => List.pairwise_singleton _ _
  | y :: r, h => by
    obtain ⟨h1, h2⟩ := List.pairwise_cons.1 h
    unfold insRev
    split
    · rename_i c
      refine List.pairwise_cons.2 ⟨fun z hz => ?_, insRev_desc x r h2⟩
      rcases (insRev_mem x r).1 hz with rfl | hz
      · omega
      · exact h1 z hz
    · rename_i c
      refine List.pairwise_cons.2 ⟨fun z hz => ?_, h⟩
      rcases List.mem_cons.1 hz with rfl | hz
      · omega
      · have := h1 z hz
        omega
theorem fold_desc : ∀ (l r : List Ge), Desc r → Desc (l.foldl insRev r)
  | [], _, h => h
  | x :: l, r, h => fold_desc l _ (insRev_desc x r h)
def Asc (l : List Ge) : Prop := l.Pairwise fun a b => a.1 ≤ b.1
theorem sort_asc (l : List Ge) : Asc (sortG l) := by
  unfold Asc sortG
  exact List.pairwise_reverse.2 (fold_desc l [] List.Pairwise.nil)
theorem asc_unique : ∀ (l m : List Ge), Asc l → Asc m → (∀ t : Int, l.filter (fun x => x.1 == t) = m.filter (fun x => x.1 == t)) → l = m
  | [], [], _, _, _ => rfl
  | [], b :: m, _, _, h => by
    have := h b.1
    rw [List.filter_cons, if_pos (by simp)] at this
    cases this
  | a :: l, [], _, _, h => by
    have := h a.1
    rw [List.filter_cons, if_pos (by simp)] at this
    cases this
  | a :: l, b :: m, hl, hm, h => by
    obtain ⟨l1, l2⟩ := List.pairwise_cons.1 hl
    obtain ⟨m1, m2⟩ := List.pairwise_cons.1 hm
    have ha : a ∈ b :: m := by
      have : a ∈ (a :: l).filter (fun x => x.1 == a.1) := List.mem_filter.2 ⟨List.mem_cons_self, by simp⟩
      rw [h a.1] at this
      exact (List.mem_filter.1 this).1
    have hb : b ∈ a :: l := by
      have : b ∈ (b :: m).filter (fun x => x.1 == b.1) := List.mem_filter.2 ⟨List.mem_cons_self, by simp⟩
      rw [← h b.1] at this
      exact (List.mem_filter.1 this).1
    have e : a.1 = b.1 := by
      rcases List.mem_cons.1 ha with rfl | ha
      · rfl
      · rcases List.mem_cons.1 hb with rfl | hb
        · rfl
        · have := m1 a ha
          have := l1 b hb
          omega
    have e2 := h a.1
    rw [List.filter_cons, if_pos (by simp), List.filter_cons, if_pos (by simp [e])] at e2
    obtain ⟨e3, e4⟩ := List.cons.inj e2
    subst e3
    congr 1
    refine asc_unique l m l2 m2 fun t => ?_
    by_cases c : a.1 = t
    · subst c; exact e4
    · have := h t
      rwa [List.filter_cons, if_neg (by simp [c]), List.filter_cons, if_neg (by simp [c])] at this
theorem asc_filter {l : List Ge} (p : Ge → Bool) (h : Asc l) : Asc (l.filter p) := List.Pairwise.filter p h
/-- What counts of a list, counts of the sorted list. -/
theorem sort_part (p : Ge → Bool) {l m : List Ge} (h : ∀ t : Int, (l.filter p).filter (fun x => x.1 == t) = (m.filter p).filter (fun x => x.1 == t)) : (sortG l).filter p = (sortG m).filter p := by
  refine asc_unique _ _ (asc_filter p (sort_asc l)) (asc_filter p (sort_asc m)) fun t => ?_
  have comm : ∀ z : List Ge, (z.filter p).filter (fun x => x.1 == t) = (z.filter (fun x => x.1 == t)).filter p := fun z => by
    rw [List.filter_filter, List.filter_filter]
    congr 1
    funext x
    rw [Bool.and_comm]
  rw [comm, comm, sort_filter, sort_filter, ← comm, ← comm]
  exact h t
theorem sort_mem {l : List Ge} {z : Ge} : z ∈ sortG l ↔ z ∈ l := by
  have : ∀ (l r : List Ge), z ∈ l.foldl insRev r ↔ z ∈ l ∨ z ∈ r := by
    intro l
    induction l with
    | nil => intro r; simp
    | cons x l ih =>
      intro r
      rw [List.foldl_cons, ih, insRev_mem, List.mem_cons]
      constructor
      · rintro (h | h | h)
        · exact .inl (.inr h)
        · exact .inl (.inl h)
        · exact .inr h
      · rintro ((h | h) | h)
        · exact .inr (.inl h)
        · exact .inl h
        · exact .inr (.inr h)
  unfold sortG
  rw [List.mem_reverse, this]
  simp
end Go.Vm
/- Consent: what Await answers; ConsentOrder. -/
namespace Go.Vm

abbrev Rs := Bool × Bool × Int × Int
theorem jn_of13 {α ρ : Type} {m : Option (α ⊕ ρ)} {k : α → Option ρ} {R : Option ρ} {a : α} (h : m = some (.inl a)) (h2 : k a = R) : jn m k = R := by
  rw [h]; exact h2
def decS (f v : Bool) (x : Ge) : Bool × Bool × Int × Int × Bool :=
  if x.2 = 4 then (false, false, 0, 20, true) else
  if x.2 = 5 then (false, false, 0, 21, true) else
  if x.2 = 3 then (if v = true then (false, false, 0, 20, true) else (true, false, x.1, 0, !v)) else
  if x.2 = 2 then (if f = true then (true, true, x.1, 0, true) else (true, false, x.1, 0, !v)) else
  if x.2 = 1 then (true, false, x.1, 0, !v) else (false, false, 0, 0, false)
theorem nb {a b : Int} (h : ¬a = b) : ¬(bEq a b = true) := by rw [bEq_false h]; simp
theorem decide_eq (x : Ge) (f v : Bool) : sh_consent_decide (x, f, v) = some (decS f v x) := by
  unfold sh_consent_decide decS
  dsimp only
  simp only [bnd_eq]
  by_cases h4 : x.2 = 4
  · rw [if_pos (bEq_true h4), if_pos h4]; rfl
  rw [if_neg (nb h4), if_neg h4]
  by_cases h5 : x.2 = 5
  · rw [if_pos (bEq_true h5), if_pos h5]; rfl
  rw [if_neg (nb h5), if_neg h5]
  by_cases h3 : x.2 = 3
  · rw [if_pos (bEq_true h3), if_pos h3]
    cases v <;> rfl
  rw [if_neg (nb h3), if_neg h3]
  by_cases h2 : x.2 = 2
  · rw [if_pos (bEq_true h2), if_pos h2]
    cases f <;> rfl
  rw [if_neg (nb h2), if_neg h2]
  by_cases h1 : x.2 = 1
  · rw [if_pos (bEq_true h1), if_pos h1]; rfl
  rw [if_neg (nb h1), if_neg h1]
  rfl
def decR (f v : Bool) (x : Ge) : Option Rs := let d := decS f v x; if d.2.2.2.2 = true then some (d.1, d.2.1, d.2.2.1, d.2.2.2.1) else none
def inW (now : Int) (x : Ge) : Bool := decide (now < x.1 ∧ x.1 ≤ iMin (iAdd .i64 now 30) 1099511627776)
def pickR (now : Int) (f v : Bool) (x : Ge) : Option Rs := if inW now x = true then decR f v x else none
def resA (now : Int) (f v : Bool) (s : List Ge) : Rs := ((s.filter (inW now)).findSome? (decR f v)).getD (false, false, 0, 19)
theorem find_filter {β : Type} (p : Ge → Bool) (h : Ge → Option β) : ∀ s : List Ge, s.findSome? (fun x => if p x = true then h x else none) = (s.filter p).findSome? h
  | [] => rfl
  | x :: s => by
    rw [List.findSome?_cons, List.filter_cons]
    by_cases c : p x = true
    · rw [if_pos c, if_pos c, List.findSome?_cons, find_filter p h s]
    · rw [if_neg c, if_neg c, find_filter p h s]
theorem firstG_find {α β : Type} (s : List Ge) (h : Ge → Option β) (a : α) (g : Nat → Option (α ⊕ β)) (hg : ∀ i (hi : i < s.length), g i = (h s[i]).map Sum.inr) : ∀ n i, i + n = s.length → firstG g (.inl a) i n = match (s.drop i).findSome? h with | some r => .inr r | none => .inl a
  | 0, i, hi => by rw [List.drop_of_length_le (by omega)]; rfl
  | n + 1, i, hi => by
    rw [List.drop_eq_getElem_cons (by omega), List.findSome?_cons]
    simp only [firstG]
    rw [hg i (by omega)]
    cases h s[i] with
    | some r => rfl
    | none => exact firstG_find s h a g hg n (i + 1) (by omega)
def awaitS (now : Int) (f v : Bool) (l : List Ge) : Rs :=
  if bLt now 0 = true then (false, false, 0, 9) else if bGt now 1099511627776 = true then (false, false, 0, 9) else
  if v = true ∧ f = false then (false, false, 0, 23) else resA now f v (sortG l)
theorem Await_eq (now : Int) (f v : Bool) (l : List Ge) (hl : l.length < 20) : sh_consent_Await (now, f, v, l) = some (awaitS now f v l) := by
  unfold sh_consent_Await awaitS
  dsimp only
  by_cases c1 : bLt now 0 = true
  · rw [if_pos c1, if_pos c1]; rfl
  rw [if_neg c1, if_neg c1]
  by_cases c2 : bGt now 1099511627776 = true
  · rw [if_pos c2, if_pos c2]; rfl
  rw [if_neg c2, if_neg c2, jn_inl]
  dsimp only
  by_cases c3 : v = true ∧ f = false
  · obtain ⟨rfl, rfl⟩ := c3
    rfl
  rw [if_neg c3]
  refine jn_of13 (a := ((0 : Int), now, f, v, l)) (by
    cases v
    · rfl
    · cases f
      · exact absurd ⟨rfl, rfl⟩ c3
      · rfl) ?_
  dsimp only
  have hC : sh_slices_Clone___passkey_api_Gesture_passkey_api_Gesture_ l = some l := by
    unfold sh_slices_Clone___passkey_api_Gesture_passkey_api_Gesture_
    rw [reqP_pos (by omega)]
  rw [hC, Option.bind_some, SortStable_eq l hl, Option.bind_some]
  have hlen := sortG_len l
  generalize sortG l = s at hlen ⊢
  refine jn_first (fun i => ((0 : Int), s, now, f, v, (s.length : Int), (i : Int))) (fun i => ((pickR now f v (s.getD i (0, 0))).map Sum.inr)) (.inl 0) s.length rfl (fun i hi => ?_) (by dsimp only; rw [if_neg (by simp [bLt])]) ?_
  · dsimp only
    rw [if_pos (bLt_true (by omega)), reqP_pos (by omega), Int.toNat_natCast]
    generalize hx : s.getD i ((0 : Int), (0 : Int)) = x
    have nx : nextG ((pickR now f v x).map (Sum.inr (α := Int))) ((0 : Int), s, now, f, v, (s.length : Int), ((i + 1 : Nat) : Int)) = match pickR now f v x with | some r => .inr (.inr r) | none => .inl ((0 : Int), s, now, f, v, (s.length : Int), ((i + 1 : Nat) : Int)) := by
      cases pickR now f v x <;> rfl
    rw [nx, add_i64 (by omega)]
    unfold pickR inW
    by_cases d1 : bLe x.1 now = true
    · rw [if_pos d1, bnd_eq, jn_inr]
      have : x.1 ≤ now := by simpa [bLe] using d1
      rw [if_neg (by rw [decide_eq_false (by omega)]; simp)]
      rfl
    · rw [if_neg d1]
      have k1 : now < x.1 := by have := mt bLe_true d1; omega
      by_cases d2 : bGt x.1 (iMin (iAdd .i64 now 30) 1099511627776) = true
      · rw [if_pos d2, bnd_eq, jn_inr]
        have : iMin (iAdd .i64 now 30) 1099511627776 < x.1 := by simpa [bGt] using d2
        rw [if_neg (by rw [decide_eq_false (by omega)]; simp)]
        rfl
      · rw [if_neg d2, jn_inl]
        dsimp only
        have k2 : x.1 ≤ iMin (iAdd .i64 now 30) 1099511627776 := by have := mt bGt_true d2; omega
        rw [decide_eq, Option.bind_some, if_pos (decide_eq_true ⟨k1, k2⟩)]
        unfold decR
        dsimp only
        split
        · rfl
        · rw [bnd_eq, add_i64 (by omega)]
          rfl
  · rw [firstG_find s (pickR now f v) (0 : Int) _ (fun i hi => by rw [getD_get hi]) s.length 0 (by omega), List.drop_zero]
    unfold resA
    rw [← find_filter]
    unfold pickR
    cases s.findSome? (fun x => if inW now x = true then decR f v x else none) <;> rfl
/-- The answer hangs on what lies in the window. -/
theorem await_part {now : Int} {f v : Bool} {l m : List Ge} (h : ∀ t : Int, (l.filter (inW now)).filter (fun x => x.1 == t) = (m.filter (inW now)).filter (fun x => x.1 == t)) : awaitS now f v l = awaitS now f v m := by
  unfold awaitS resA
  rw [sort_part (inW now) h]
theorem awake13_true : sh_passkeylaw13_awake () = some true := by
  unfold sh_passkeylaw13_awake
  rw [bnd_eq, Await_eq 10 false false _ (by decide), Option.bind_some, bnd_eq, Await_eq 10 false false _ (by decide), Option.bind_some, Await_eq 10 false true [] (by decide), Option.bind_some]
  decide
end Go.Vm
/- Consent: ConsentOrder. -/
namespace Go.Vm

theorem good_u16 {n : Int} : (Ty.int .u16).Good n ↔ (0 ≤ n ∧ n ≤ 65535) := by simp [Ty.Good, Lit.wf, IntKind.min, IntKind.max, IntKind.signed, IntKind.bits]
theorem same_rs (r : Rs) : ((bIff r.1 r.1) && ((bIff r.2.1 r.2.1) && ((bEq r.2.2.1 r.2.2.1) && true))) = true := by simp [bIff]
end Go.Vm
/- Consent: ConsentWindow, ConsentVerified. -/
namespace Go.Vm

def gesM (now : Int) (l : List Int) (i : Nat) : Ge :=
  (iSub .i64 (iAdd .i64 now (iConv .i64 (iAnd .u16 (l.getD i 0) 63))) 10, iSub .i64 (iConv .i64 (iAnd .u16 (iShr .u16 (l.getD i 0) 6) 15)) 1)
def madeS (now : Int) (l : List Int) : List Ge := (List.range (min l.length 8)).map (gesM now l)
theorem made_len (now : Int) (l : List Int) : (madeS now l).length ≤ 8 := by simp [madeS]; omega
theorem made_eq (now : Int) (l : List Int) : sh_passkeylaw13_made (now, l) = some (madeS now l) := by
  unfold sh_passkeylaw13_made madeS
  dsimp only
  generalize hn : min l.length 8 = n
  refine jn_count (fun i => ((List.range i).map (gesM now l), now, l, (i : Int))) n ((List.range n).map (gesM now l)) rfl (fun i hi => ?_) ?_ rfl
  · dsimp only
    have hget : l[i]? = some (l.getD i 0) := by
      rw [List.getElem?_eq_getElem (by omega), getD_get (by omega)]
    rw [if_pos (bLt_true (by omega)), if_pos (bLt_true (by omega)), jn_inl]
    dsimp only
    have q : ∀ y : Ge, (((List.range i).map (gesM now l)).length + ((List.replicate 1 ((0 : Int), (0 : Int))).set 0 y).length) * 16 ≤ 140737488355328 := fun y => by simp; omega
    rw [atL_nat hget, atL_nat hget, bnd_eq, reqP_pos (q _), bnd_eq, bnd_eq, add_i64 (a := (i : Int)) (by omega), range_map_snoc]
    rfl
  · dsimp only
    by_cases c : (n : Int) < (l.length : Int)
    · rw [if_pos (bLt_true c), if_neg (by rw [bLt_false (by omega)]; simp), jn_inr]
    · rw [if_neg (by rw [bLt_false (by omega)]; simp), jn_inr]

theorem dec_facts {f v : Bool} {x : Ge} {r : Rs} (h : decR f v x = some r) :
    (r.2.2.2 = 0 → r.1 = true ∧ r.2.2.1 = x.1) ∧ (r.2.2.2 = 0 → r.2.1 = true → f = true ∧ x.2 = 2) ∧ (r.2.2.2 = 0 → v = true → r.2.1 = true) ∧ (r.2.2.2 ≠ 0 → r.1 = false ∧ r.2.1 = false ∧ r.2.2.1 = 0) := by
  unfold decR decS at h
  dsimp only at h
  by_cases h4 : x.2 = 4
  · rw [if_pos h4] at h; cases h; simp
  rw [if_neg h4] at h
  by_cases h5 : x.2 = 5
  · rw [if_pos h5] at h; cases h; simp
  rw [if_neg h5] at h
  by_cases h3 : x.2 = 3
  · rw [if_pos h3] at h
    cases v with
    | true => cases h; simp
    | false => cases h; simp
  rw [if_neg h3] at h
  by_cases h2 : x.2 = 2
  · rw [if_pos h2] at h
    cases f with
    | true => cases h; simp [h2]
    | false =>
      cases v with
      | true => cases h
      | false => cases h; simp
  rw [if_neg h2] at h
  by_cases h1 : x.2 = 1
  · rw [if_pos h1] at h
    cases v with
    | true => cases h
    | false => cases h; simp
  rw [if_neg h1] at h
  cases h
theorem find_mem {β : Type} {h : Ge → Option β} {r : β} : ∀ {s : List Ge}, s.findSome? h = some r → ∃ x ∈ s, h x = some r
  | [], e => by cases e
  | x :: s, e => by
    rw [List.findSome?_cons] at e
    cases c : h x with
    | some q => rw [c] at e; cases e; exact ⟨x, List.mem_cons_self, c⟩
    | none =>
      rw [c] at e
      obtain ⟨y, h1, h2⟩ := find_mem e
      exact ⟨y, List.mem_cons_of_mem _ h1, h2⟩
/-- What is true of every answer. -/
theorem await_facts (now : Int) (f v : Bool) (l : List Ge) :
    ((awaitS now f v l).2.2.2 = 0 ∧ (awaitS now f v l).1 = true ∧ (∃ x ∈ l, inW now x = true ∧ (awaitS now f v l).2.2.1 = x.1 ∧ ((awaitS now f v l).2.1 = true → f = true ∧ x.2 = 2)) ∧ (v = true → (awaitS now f v l).2.1 = true))
    ∨ ((awaitS now f v l).2.2.2 ≠ 0 ∧ (awaitS now f v l).1 = false ∧ (awaitS now f v l).2.1 = false ∧ (awaitS now f v l).2.2.1 = 0) := by
  unfold awaitS
  by_cases c1 : bLt now 0 = true
  · right; rw [if_pos c1]; simp
  rw [if_neg c1]
  by_cases c2 : bGt now 1099511627776 = true
  · right; rw [if_pos c2]; simp
  rw [if_neg c2]
  by_cases c3 : v = true ∧ f = false
  · right; rw [if_pos c3]; simp
  rw [if_neg c3]
  unfold resA
  cases hs : ((sortG l).filter (inW now)).findSome? (decR f v) with
  | none => right; simp
  | some r =>
    obtain ⟨x, h1, h2⟩ := find_mem hs
    obtain ⟨h3, h4⟩ := List.mem_filter.1 h1
    obtain ⟨d1, d2, d3, d4⟩ := dec_facts h2
    rw [Option.getD_some]
    by_cases e : r.2.2.2 = 0
    · exact .inl ⟨e, (d1 e).1, ⟨x, sort_mem.1 h3, h4, (d1 e).2, d2 e⟩, d3 e⟩
    · exact .inr ⟨e, d4 e⟩

end Go.Vm
/- Consent: ConsentWindow. -/
namespace Go.Vm

def gesW (now : Int) (m : List Int) (i : Nat) : Ge :=
  (if bEq (iAnd .u16 (iShr .u16 (m.getD i 0) 3) 1) 1 = true then now + 31 + m.getD i 0 / 16 % 64 else now - m.getD i 0 / 16 % 64, iConv .i64 (iRem .u16 (m.getD i 0) 7))
theorem inW_eq {now : Int} (h : 0 ≤ now ∧ now ≤ 65535) (x : Ge) : inW now x = decide (now < x.1 ∧ x.1 ≤ now + 30) := by
  unfold inW
  rw [add_i64 (by omega), show iMin (now + 30) 1099511627776 = now + 30 from by unfold iMin; omega]
theorem gesW_out {now : Int} (h : 0 ≤ now ∧ now ≤ 65535) (m : List Int) (i : Nat) : inW now (gesW now m i) = false := by
  rw [inW_eq h]
  unfold gesW
  dsimp only
  split
  · exact decide_eq_false (by omega)
  · exact decide_eq_false (by omega)
def moreW (now : Int) (m : List Int) (x : List Ge) : Nat → List Ge
  | 0 => x
  | i + 1 => gesW now m i :: moreW now m x i
theorem moreW_len (now : Int) (m : List Int) (x : List Ge) : ∀ i, (moreW now m x i).length = x.length + i
  | 0 => rfl
  | i + 1 => by unfold moreW; rw [List.length_cons, moreW_len now m x i]; omega
theorem moreW_part {now : Int} (h : 0 ≤ now ∧ now ≤ 65535) (m : List Int) (x : List Ge) : ∀ i, (moreW now m x i).filter (inW now) = x.filter (inW now)
  | 0 => rfl
  | i + 1 => by
    unfold moreW
    rw [List.filter_cons, if_neg (by rw [gesW_out h]; simp), moreW_part h m x i]

theorem ConsentWindow_true (x : Int × Bool × Bool × List Int × List Int) (h : Goods [.int .u16, .bool, .bool, .list (.int .u16), .list (.int .u16)] x) : sh_passkeylaw13_ConsentWindow x = some true := by
  obtain ⟨now, f, v, l, m⟩ := x
  obtain ⟨g1, _⟩ := goods_all h
  have hnow : 0 ≤ now ∧ now ≤ 65535 := good_u16.1 g1
  clear g1 h
  unfold sh_passkeylaw13_ConsentWindow
  have hc : iConv .i64 now = now := conv_i64 (by omega)
  dsimp only
  rw [hc, made_eq, Option.bind_some]
  have hl := made_len now l
  generalize madeS now l = s at hl ⊢
  rw [reqP_pos (by omega)]
  generalize hn : min m.length 8 = n
  refine jn_count (fun i => (s, moreW now m s i, now, f, v, m, (i : Int))) n (s, moreW now m s n, now, f, v) rfl (fun i hi => ?_) ?_ ?_
  · dsimp only
    have hget : m[i]? = some (m.getD i 0) := by
      rw [List.getElem?_eq_getElem (by omega), getD_get (by omega)]
    have hlen := moreW_len now m s i
    rw [if_pos (bLt_true (by omega)), if_pos (bLt_true (by omega)), jn_inl]
    dsimp only
    refine jn_of13 (a := (moreW now m s (i + 1), s, now, f, v, m, (i : Int), (i : Int), bLt (i : Int) 8)) ?_ (by
      dsimp only
      rw [bnd_eq, add_i64 (by omega)]
      rfl)
    rw [atL_nat hget, atL_nat hget]
    refine jn_of13 (a := (s, moreW now m s i, (gesW now m i).1, (gesW now m i).2, now, f, v, m, (i : Int), (i : Int), bLt (i : Int) 8)) ?_ ?_
    · rw [atL_nat hget, hc]
      have hw : iConv .i64 (iAnd .u16 (iShr .u16 (m.getD i 0) 4) 63) = m.getD i 0 / 16 % 64 := by
        have e := shr_eq .u16 (m.getD i 0) 4 (by decide)
        rw [show ((4 : Nat) : Int) = 4 from rfl, show (2 : Int) ^ 4 = 16 from rfl] at e
        rw [e, and_63 _ .u16, conv_i64 (by omega)]
      unfold gesW
      by_cases c : bEq (iAnd .u16 (iShr .u16 (m.getD i 0) 3) 1) 1 = true
      · have a1 : iAdd .i64 now 30 = now + 30 := add_i64 (by omega)
        have a2 : iAdd .i64 (now + 30) 1 = now + 31 := by rw [add_i64 (by omega)]; omega
        have a3 : iAdd .i64 (now + 31) (m.getD i 0 / 16 % 64) = now + 31 + m.getD i 0 / 16 % 64 := add_i64 (by omega)
        rw [if_pos c, if_pos c, atL_nat hget, hw, a1, a2, a3, bnd_eq]
      · have a1 : iSub .i64 now (m.getD i 0 / 16 % 64) = now - m.getD i 0 / 16 % 64 := sub_i64 (by omega)
        rw [if_neg c, if_neg c, hw, a1]
    · dsimp only
      have q : ∀ y : Ge, (((List.replicate 1 ((0 : Int), (0 : Int))).set 0 y).length + (moreW now m s i).length) * 16 ≤ 140737488355328 := fun y => by simp; omega
      rw [bnd_eq, reqP_pos (q _), bnd_eq]
      rfl
  · dsimp only
    by_cases c : (n : Int) < (m.length : Int)
    · rw [if_pos (bLt_true c), if_neg (by rw [bLt_false (by omega)]; simp), jn_inr]
    · rw [if_neg (by rw [bLt_false (by omega)]; simp), jn_inr]
  · dsimp only
    have hlen := moreW_len now m s n
    rw [hc, Await_eq now f v _ (by omega), Option.bind_some, Await_eq now f v _ (by omega), Option.bind_some]
    rw [await_part (l := moreW now m s n) (m := s) (fun t => by rw [moreW_part hnow])]
    have hF := await_facts now f v s
    generalize awaitS now f v s = r at hF ⊢
    rw [if_pos (same_rs r), if_pos (bEq_self _), awake13_true, Option.bind_some]
    rcases hF with ⟨h1, h2, ⟨y, hy, h4, h3, _⟩, _⟩ | ⟨h1, _⟩
    · rw [inW_eq hnow] at h4
      have h4 := of_decide_eq_true h4
      have a1 : iAdd .i64 now 30 = now + 30 := add_i64 (by omega)
      rw [if_neg (by rw [bNe_false h1]; simp), if_pos h2, if_pos (bGt_true (by omega)), a1, if_pos (bLe_true (by omega))]
    · rw [if_pos (bNe_true h1)]
end Go.Vm
