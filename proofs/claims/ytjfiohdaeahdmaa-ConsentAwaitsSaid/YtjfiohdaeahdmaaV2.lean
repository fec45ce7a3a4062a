/- A machine of abstract values and a typed machine above it, both proved sound for any program: part 2. -/
import Derived.Test.YtjfiohdaeahdmaaV1
import Derived.Laws.Sem
import Derived.Laws.BytesString
import Derived.Laws.BytesArg
import Derived.Lib.ConvBytes
set_option linter.unusedVariables false
/- Values that are handed out together with memory. -/
namespace Go.Vm

/-- These regions are parts of the objects in these slots, or empty. -/
inductive Went (θ : Slot → Reg) (σ : State) : List Reg → List Slot → Prop
  | nil : Went θ σ [] []
  | skip {L : List Reg} {D : List Slot} (r : Reg) : r.n = 0 → Went θ σ L D → Went θ σ (r :: L) D
  | cons {L : List Reg} {D : List Slot} (r : Reg) (d : Slot) : (∃ o, (σ.getO d).obj = some o) → σ.getF d = false → (∀ b k, r.Has b k → (θ d).Has b k) → Went θ σ L D → Went θ σ (r :: L) (d :: D)

theorem Went.one {θ : Slot → Reg} {σ : State} {r : Reg} {d : Slot} (h1 : ∃ o, (σ.getO d).obj = some o) (h2 : σ.getF d = false) (h3 : ∀ b k, r.Has b k → (θ d).Has b k) : Went θ σ [r] [d] := .cons r d h1 h2 h3 .nil

theorem Went.append {θ : Slot → Reg} {σ : State} {L M : List Reg} {D E : List Slot} (h : Went θ σ L D) (k : Went θ σ M E) : Went θ σ (L ++ M) (D ++ E) := by
  induction h with
  | nil => exact k
  | skip r h _ ih => exact .skip r h ih
  | cons r d h1 h2 h3 _ ih => exact .cons r d h1 h2 h3 ih

theorem Reg.none_of {r : Reg} (h : r.n = 0) {b k : Nat} : ¬r.Has b k := fun ⟨_, h1, h2⟩ => by omega

theorem Went.mem {θ : Slot → Reg} {σ : State} {L : List Reg} {D : List Slot} (h : Went θ σ L D) : ∀ r ∈ L, r.n = 0 ∨ ∃ d ∈ D, (∃ o, (σ.getO d).obj = some o) ∧ σ.getF d = false ∧ ∀ b k, r.Has b k → (θ d).Has b k := by
  induction h with
  | nil => intro r hr; cases hr
  | skip r h _ ih =>
    intro q hq
    simp only [List.mem_cons] at hq
    rcases hq with rfl | hq
    · exact .inl h
    · exact ih q hq
  | cons r d h1 h2 h3 _ ih =>
    intro q hq
    simp only [List.mem_cons] at hq
    rcases hq with rfl | hq
    · exact .inr ⟨d, by simp, h1, h2, h3⟩
    · exact (ih q hq).imp id fun ⟨e, he, g⟩ => ⟨e, by simp [he], g⟩

theorem Went.slots {θ : Slot → Reg} {σ : State} {L : List Reg} {D : List Slot} (h : Went θ σ L D) : ∀ d ∈ D, (∃ o, (σ.getO d).obj = some o) ∧ σ.getF d = false := by
  induction h with
  | nil => intro r hr; cases hr
  | skip r h _ ih => exact ih
  | cons r d h1 h2 h3 _ ih =>
    intro q hq
    simp only [List.mem_cons] at hq
    rcases hq with rfl | hq
    · exact ⟨h1, h2⟩
    · exact ih q hq

theorem Went.flags {θ : Slot → Reg} {σ σ' : State} {L : List Reg} {D : List Slot} (h : Went θ σ L D) : (∀ d ∈ D, σ'.getO d = σ.getO d ∧ σ'.getF d = σ.getF d) → Went θ σ' L D := by
  induction h with
  | nil => intro _; exact .nil
  | skip r h _ ih => intro hf; exact .skip r h (ih hf)
  | cons r d h1 h2 h3 _ ih =>
    intro hf
    obtain ⟨e1, e2⟩ := hf d (by simp)
    exact .cons r d (by rw [e1]; exact h1) (by rw [e2]; exact h2) h3 (ih fun e he => hf e (by simp [he]))

section
variable {φ : Phi} {C : Fr} {θ : Slot → Reg} {μ μ' : Mem} {σ : State} {a : Act} {w : World}

theorem Went.apart (h : Inv φ C θ μ σ a w) {L : List Reg} {D : List Slot} (hw : Went θ σ L D) : D.Nodup → L.Pairwise Reg.Apart := by
  induction hw with
  | nil => intro _; exact List.Pairwise.nil
  | skip r hr _ ih => intro hn; exact List.pairwise_cons.2 ⟨fun q _ b k h1 _ => Reg.none_of hr h1, ih hn⟩
  | cons r d h1 h2 h3 hw ih =>
    intro hn
    rw [List.nodup_cons] at hn
    refine List.pairwise_cons.2 ⟨fun q hq => ?_, ih hn.2⟩
    rcases hw.mem q hq with hq0 | ⟨e, he, ⟨oe, hoe⟩, _, hsub⟩
    · intro b k _ g; exact Reg.none_of hq0 g
    · obtain ⟨od, hod⟩ := h1
      intro b k g1 g2
      exact h.apart d e od oe (fun hde => hn.1 (hde ▸ he)) hod hoe b k (h3 b k g1) (hsub b k g2)

theorem Inv.regOK (h : Inv φ C θ μ σ a w) {r : Reg} {d : Slot} {o : Obj} (hd : (σ.getO d).obj = some o) (hz : σ.getF d = false) (hs : ∀ b k, r.Has b k → (θ d).Has b k) : RegOK μ w r := by
  have hok := h.obj d o hd
  have at_ : ∀ k, k < r.n → ∃ j, j < (θ d).n ∧ r.bl = (θ d).bl ∧ r.off + k = (θ d).off + j := by
    intro k hk
    obtain ⟨h1, h2, h3⟩ := hs r.bl (r.off + k) ⟨rfl, by omega, by omega⟩
    exact ⟨r.off + k - (θ d).off, by omega, h1.symm, by omega⟩
  refine ⟨fun k hk => ?_, fun k hk => ?_, fun k hk => ?_⟩
  · obtain ⟨j, h1, h2, h3⟩ := at_ k hk
    rw [h2, h3]; exact hok.there j h1
  · obtain ⟨j, h1, h2, h3⟩ := at_ k hk
    rw [h2, h3]; exact hok.soft j h1
  · obtain ⟨j, h1, h2, h3⟩ := at_ k hk
    rw [h2, h3]; exact hok.free j h1 (.inl hz)

/-- What an operation hands out: the value and the regions. -/
def OutOK (φ : Phi) (θ : Slot → Reg) (μ' : Mem) (σ : State) (w : World) (y : AV) (v : Value) (mv rd : List Slot) : Prop :=
  (∀ d ∈ rd, Shut θ μ' σ w d) → ∃ L, Own φ μ' w y v L ∧ Went θ σ L mv

theorem outs {g : AV → R (AV × List Slot × List Slot)}
    (hg : ∀ (x y : AV) (mv rd : List Slot) (v : Value), (g x).run σ = some (y, mv, rd) → Rep φ μ (viewOf σ θ) x v → OutOK φ θ μ' σ w y v mv rd) :
    ∀ (cs cs' : List AV) (mv rd : List Slot) (u : Nat → Value), (mapE g cs).run σ = some (cs', mv, rd) → (∀ (j : Nat) (c : AV), cs[j]? = some c → Rep φ μ (viewOf σ θ) c (u j)) → (∀ d ∈ rd, Shut θ μ' σ w d) →
      cs'.length = cs.length ∧ ∃ L : Nat → List Reg, (∀ (j : Nat) (c : AV), cs'[j]? = some c → Own φ μ' w c (u j) (L j)) ∧ Went θ σ ((List.range cs.length).flatMap L) mv := by
  intro cs
  induction cs with
  | nil =>
    intro cs' mv rd u hr _ _
    simp only [mapE, R.run_ret, Option.some.injEq, Prod.mk.injEq] at hr
    obtain ⟨rfl, rfl, rfl⟩ := hr
    exact ⟨rfl, fun _ => [], by simp, .nil⟩
  | cons c cs ih =>
    intro cs' mv rd u hr ho hs
    simp only [mapE, R.run_bind] at hr
    cases h1 : (g c).run σ with
    | none => simp [h1] at hr
    | some x =>
      obtain ⟨c', m1, r1⟩ := x
      simp only [h1, Option.bind_some] at hr
      cases h2 : (mapE g cs).run σ with
      | none => simp [h2] at hr
      | some y =>
        obtain ⟨cs1, m2, r2⟩ := y
        simp only [h2, Option.bind_some, R.run_ret, Option.some.injEq, Prod.mk.injEq] at hr
        obtain ⟨rfl, rfl, rfl⟩ := hr
        obtain ⟨L0, g1, g2⟩ := hg c c' m1 r1 (u 0) h1 (ho 0 c (by simp)) (fun d hd => hs d (by simp [hd]))
        obtain ⟨g3, L, g4, g5⟩ := ih cs1 m2 r2 (fun j => u (j + 1)) h2 (fun j c hc => ho (j + 1) c (by simpa using hc)) (fun d hd => hs d (by simp [hd]))
        refine ⟨by simp [g3], fun j => match j with | 0 => L0 | j + 1 => L j, fun j c hc => ?_, ?_⟩
        · cases j with
          | zero => simp at hc; subst hc; exact g1
          | succ j => exact g4 j c (by simpa using hc)
        · simp only [List.length_cons, range_flatMap_succ]
          exact g2.append g5

theorem Inv.exp (h : Inv φ C θ μ σ a w) (hm : μ.Le μ') : ∀ (f : Nat) (x y : AV) (mv rd : List Slot) (v : Value), (expR f x).run σ = some (y, mv, rd) → Rep φ μ (viewOf σ θ) x v → OutOK φ θ μ' σ w y v mv rd := by
  intro f
  induction f with
  | zero => intro x y mv rd v hr; simp [expR, R.run_fail] at hr
  | succ f ih =>
    intro x y mv rd v hr hv hs
    cases x with
    | any => simp [expR, R.run_fail] at hr
    | fresh => simp [expR, R.run_fail] at hr
    | inout => simp [expR, R.run_fail] at hr
    | spare => simp [expR, R.run_fail] at hr
    | sref d st lo ln =>
      simp only [expR, R.run_bind] at hr
      cases hob : (theObj d st).run σ with
      | none => simp [hob] at hr
      | some o =>
        simp only [hob, Option.bind_some, run_frz] at hr
        split at hr
        · rename_i hc
          simp only [Bool.and_eq_true, Bool.not_eq_true', decide_eq_true_eq] at hc
          obtain ⟨hvar, hle⟩ := hc
          have hd := run_theObj.1 hob
          split at hr
          · simp only [R.run_ret, Option.some.injEq, Prod.mk.injEq] at hr
            obtain ⟨rfl, rfl, rfl⟩ := hr
            exact ⟨[], .val (h.sref_val hd hv hvar hle hm (hs d (by simp))), .nil⟩
          · rename_i hz
            simp only [Bool.not_eq_true] at hz
            simp only [R.run_ret, Option.some.injEq, Prod.mk.injEq] at hr
            obtain ⟨rfl, rfl, rfl⟩ := hr
            have hok := h.obj d o (by rw [hd])
            obtain ⟨b, cap, rfl, h1, h2, h3, h4⟩ := hv.sref_inv (viewOf_live hd)
            have hlen : ((o.xs.drop lo).take ln).length = ln := by simp; omega
            have idx : ∀ (i : Nat) (x : AV), ((o.xs.drop lo).take ln)[i]? = some x → o.xs[lo + i]? = some x := by
              intro i x hx
              rw [List.getElem?_take] at hx
              split at hx
              · rwa [List.getElem?_drop] at hx
              · cases hx
            have h2' : lo * o.e + cap * o.e ≤ (θ d).n := by rw [← Nat.add_mul, ← hok.e]; exact h2
            have hown := Own.fresh (φ := φ) (μ := μ') (w := w) o.e ((o.xs.drop lo).take ln) ⟨(θ d).bl, (θ d).off + lo * o.e, cap * o.e, o.e, ((o.xs.drop lo).take ln).length⟩ b cap hok.pos rfl rfl rfl (by rw [hlen]; exact h1)
              (fun hc => by rw [h4 hc, hok.e])
              (fun i x hx => ⟨hok.size _ x (idx i x hx), hok.one hvar _ x (idx i x hx)⟩)
              (fun i j x c hx hc => by
                obtain ⟨v, g1, g2, g3, _⟩ := hok.cell (lo + i) j x c (idx i x hx) hc
                refine ⟨v, ?_, (g3 hvar).mono hm⟩
                simp only
                rw [show (θ d).off + lo * o.e + i * o.e + j = (θ d).off + (lo + i) * o.e + j by rw [Nat.add_mul]; omega]
                exact g1)
            rw [hlen] at hown
            refine ⟨_, hown, .one ⟨o, by rw [hd]⟩ hz fun b k hb => ?_⟩
            obtain ⟨q1, q2, q3⟩ := hb
            simp only at q1 q2 q3
            exact ⟨q1, by omega, by omega⟩
        · simp [R.run_fail] at hr
    | ref d st i off =>
      simp only [expR, R.run_bind] at hr
      cases hob : (theObj d st).run σ with
      | none => simp [hob] at hr
      | some o =>
        simp only [hob, Option.bind_some, run_frz] at hr
        have hd := run_theObj.1 hob
        split at hr
        · rename_i x hxs
          split at hr
          · rename_i hc
            simp only [Bool.and_eq_true, Bool.not_eq_true'] at hc
            simp only [R.run_bind] at hr
            cases hq : (mapE (expR f) x.cells).run σ with
            | none => simp [hq] at hr
            | some q =>
              obtain ⟨cs1, m2, r2⟩ := q
              simp only [hq, Option.bind_some, R.run_ret, Option.some.injEq, Prod.mk.injEq] at hr
              obtain ⟨rfl, rfl, rfl⟩ := hr
              have hok := h.obj d o (by rw [hd])
              have hv' := hv.ref_inv (viewOf_live hd)
              subst hv'
              have hx0 : o.xs[0]? = some x := by rw [hxs]; rfl
              have hsz := hok.size 0 x hx0
              have hcell : ∀ (j : Nat) (c : AV), x.cells[j]? = some c → ∃ v, w.cell? ⟨(θ d).bl, (θ d).off + j, none⟩ = some v ∧ Rep φ μ (viewOf σ θ) c v := by
                intro j c hc
                obtain ⟨v, g1, g2, _⟩ := hok.cell 0 j x c hx0 hc
                exact ⟨v, by simpa using g1, g2⟩
              obtain ⟨g1, L, g2, g3⟩ := outs (μ' := μ') ih x.cells cs1 m2 r2 (fun j => (w.cell? ⟨(θ d).bl, (θ d).off + j, none⟩).getD undef) hq (fun j c hc => by
                obtain ⟨v, k1, k2⟩ := hcell j c hc
                rw [k1]; exact k2) (fun e he => hs e he)
              have hroom : x.cells.length ≤ (θ d).n := by
                have := hok.room
                have hf := hok.fit
                rw [hxs] at hf
                simp only [List.length_singleton] at hf
                have h2 := Nat.mul_le_mul_right o.e hf
                rw [hsz]; omega
              refine ⟨⟨(θ d).bl, (θ d).off, cs1.length, cs1.length, 1⟩ :: (List.range cs1.length).flatMap L, ?_, ?_⟩
              · have := Own.inout (φ := φ) (μ := μ') (w := w) cs1 ⟨(θ d).bl, (θ d).off, cs1.length, cs1.length, 1⟩ L (fun j => (w.cell? ⟨(θ d).bl, (θ d).off + j, none⟩).getD undef)
                  (by rw [g1, hsz]; exact hok.pos) rfl rfl rfl (fun j c hc => by
                    have hj : j < x.cells.length := by rw [← g1]; exact (List.getElem?_eq_some_iff.1 hc).1
                    obtain ⟨v, k1, _⟩ := hcell j _ (List.getElem?_eq_getElem hj)
                    simp only
                    rw [k1]; rfl) g2
                simpa using this
              · refine .cons _ _ ⟨o, by rw [hd]⟩ hc.2 (fun b k hb => ?_) (by rw [g1]; exact g3)
                obtain ⟨q1, q2, q3⟩ := hb
                simp only at q1 q2 q3
                exact ⟨q1, q2, by omega⟩
          · simp [R.run_fail] at hr
        · simp [R.run_fail] at hr
    | agg cs =>
      simp only [expR, R.run_bind] at hr
      cases hq : (mapE (expR f) cs).run σ with
      | none => simp [hq] at hr
      | some q =>
        obtain ⟨cs1, m2, r2⟩ := q
        simp only [hq, Option.bind_some, R.run_ret, Option.some.injEq, Prod.mk.injEq] at hr
        obtain ⟨rfl, rfl, rfl⟩ := hr
        obtain ⟨vs, rfl, k1, k2⟩ := hv.agg_inv
        obtain ⟨g1, L, g2, g3⟩ := outs (μ' := μ') ih cs cs1 m2 r2 (fun j => vs.getD j undef) hq (fun j c hc => by
          have hj : j < vs.size := by rw [k1]; exact (List.getElem?_eq_some_iff.1 hc).1
          have := k2 j c vs[j] hc (Array.getElem?_eq_getElem hj)
          simpa [hj] using this) hs
        refine ⟨_, .agg cs1 vs L (by rw [k1, g1]) (fun j c u hc hu => ?_), by rw [g1]; exact g3⟩
        have := g2 j c hc
        simpa [hu] using this
    | tuple cs =>
      simp only [expR, R.run_bind] at hr
      cases hq : (mapE (expR f) cs).run σ with
      | none => simp [hq] at hr
      | some q =>
        obtain ⟨cs1, m2, r2⟩ := q
        simp only [hq, Option.bind_some, R.run_ret, Option.some.injEq, Prod.mk.injEq] at hr
        obtain ⟨rfl, rfl, rfl⟩ := hr
        obtain ⟨vs, rfl, k1, k2⟩ := hv.tuple_inv
        obtain ⟨g1, L, g2, g3⟩ := outs (μ' := μ') ih cs cs1 m2 r2 (fun j => vs.getD j undef) hq (fun j c hc => by
          have hj : j < vs.size := by rw [k1]; exact (List.getElem?_eq_some_iff.1 hc).1
          have := k2 j c vs[j] hc (Array.getElem?_eq_getElem hj)
          simpa [hj] using this) hs
        refine ⟨_, .tuple cs1 vs L (by rw [k1, g1]) (fun j c u hc hu => ?_), by rw [g1]; exact g3⟩
        have := g2 j c hc
        simpa [hu] using this
    | fn g p q =>
      simp only [expR, R.run_bind] at hr
      cases hq : (Vm.valR f (.fn g p q)).run σ with
      | none => simp [hq] at hr
      | some y' =>
        obtain ⟨y', r2⟩ := y'
        simp only [hq, Option.bind_some, R.run_ret, Option.some.injEq, Prod.mk.injEq] at hr
        obtain ⟨rfl, rfl, rfl⟩ := hr
        exact ⟨[], .val (h.valR hm f _ _ _ v hq hv hs), .nil⟩
    | _ =>
      simp only [expR, R.run_ret, Option.some.injEq, Prod.mk.injEq] at hr
      obtain ⟨rfl, rfl, rfl⟩ := hr
      exact ⟨[], .val ((hv.toRV (by simp) (by simp) (by simp) (by simp) (by simp) (by simp) (by simp)).mono hm), .nil⟩
end
end Go.Vm
/- Many objects given up, many made, at once. -/
namespace Go.Vm

structure New where
  d : Nat
  st : Nat
  r : Reg
  o : Obj

inductive GW (Z : Slot → Prop) : List W → List New → Prop
  | nil : GW Z [] []
  | made {ws : List W} {G : List New} (p : New) : GW Z ws G → GW Z (.o p.d ⟨p.st, some p.o⟩ :: .f p.d false :: ws) (p :: G)
  | back {ws : List W} {G : List New} (p : New) : Z p.d → GW Z ws G → GW Z (.o p.d ⟨p.st, some p.o⟩ :: ws) (p :: G)

section
variable {Z : Slot → Prop}
theorem GW.append {a b : List W} {G H : List New} (h : GW Z a G) (k : GW Z b H) : GW Z (a ++ b) (G ++ H) := by
  induction h with
  | nil => exact k
  | made p _ ih => exact .made p ih
  | back p hz _ ih => exact .back p hz ih

theorem GW.madeAt {ws : List W} {G : List New} (h : GW Z ws G) : Vm.madeAt ws = G.map New.d := by
  induction h with
  | nil => rfl
  | made p _ ih => simp [Vm.madeAt, ih]
  | back p _ _ ih => simp [Vm.madeAt, ih]

theorem nodup_spec : ∀ {l : List Nat}, nodup l = true → l.Nodup
  | [], _ => List.nodup_nil
  | x :: l, h => by
    simp only [nodup, Bool.and_eq_true, Bool.not_eq_true'] at h
    exact List.nodup_cons.2 ⟨fun hx => (by rw [List.contains_iff_mem.2 hx] at h; cases h.1), nodup_spec h.2⟩

theorem GW.T {ws : List W} {G : List New} (h : GW Z ws G) : ∀ (σ : State) (n : Nat), (σ.applyAll ws).getT n = σ.getT n := by
  induction h with
  | nil => intro σ n; rfl
  | made p _ ih => intro σ n; rw [applyAll_cons, applyAll_cons, ih]; rfl
  | back p _ _ ih => intro σ n; rw [applyAll_cons, ih]; rfl

theorem GW.out {ws : List W} {G : List New} (h : GW Z ws G) : ∀ (σ : State) (d : Slot), d ∉ G.map New.d → (σ.applyAll ws).getO d = σ.getO d ∧ (σ.applyAll ws).getF d = σ.getF d := by
  induction h with
  | nil => intro σ d _; exact ⟨rfl, rfl⟩
  | made p _ ih =>
    intro σ d hd
    simp only [List.map_cons, List.mem_cons, not_or] at hd
    obtain ⟨h1, h2⟩ := ih (((σ.applyAll [.o p.d ⟨p.st, some p.o⟩]).applyAll [.f p.d false])) d hd.2
    rw [applyAll_cons, applyAll_cons]
    refine ⟨h1.trans ?_, h2.trans ?_⟩
    · show (((W.o p.d ⟨p.st, some p.o⟩).apply σ)).getO d = _
      rw [getO_o, if_neg hd.1]
    · show (W.apply ((W.o p.d ⟨p.st, some p.o⟩).apply σ) (.f p.d false)).getF d = _
      rw [getF_f, if_neg hd.1]; rfl
  | back p _ _ ih =>
    intro σ d hd
    simp only [List.map_cons, List.mem_cons, not_or] at hd
    obtain ⟨h1, h2⟩ := ih ((σ.applyAll [.o p.d ⟨p.st, some p.o⟩])) d hd.2
    rw [applyAll_cons]
    refine ⟨h1.trans ?_, h2.trans ?_⟩
    · show (((W.o p.d ⟨p.st, some p.o⟩).apply σ)).getO d = _
      rw [getO_o, if_neg hd.1]
    · rfl

theorem GW.at_ {ws : List W} {G : List New} (h : GW Z ws G) : ∀ (σ : State), (G.map New.d).Nodup → (∀ d, Z d → σ.getF d = false) → ∀ p ∈ G, (σ.applyAll ws).getO p.d = ⟨p.st, some p.o⟩ ∧ (σ.applyAll ws).getF p.d = false := by
  induction h with
  | nil => intro σ _ _ p hp; cases hp
  | made p h0 ih =>
    intro σ hn hz q hq
    simp only [List.map_cons, List.nodup_cons] at hn
    rw [applyAll_cons, applyAll_cons]
    simp only [List.mem_cons] at hq
    rcases hq with rfl | hq
    · obtain ⟨h1, h2⟩ := h0.out (((W.o q.d ⟨q.st, some q.o⟩).apply σ).applyAll [.f q.d false]) q.d hn.1
      refine ⟨h1.trans ?_, h2.trans ?_⟩
      · show (((W.o q.d ⟨q.st, some q.o⟩).apply σ)).getO q.d = _
        rw [getO_o, if_pos rfl]
      · show (W.apply ((W.o q.d ⟨q.st, some q.o⟩).apply σ) (.f q.d false)).getF q.d = _
        rw [getF_f, if_pos rfl]
    · refine ih (((W.o p.d ⟨p.st, some p.o⟩).apply σ).applyAll [.f p.d false]) hn.2 (fun d hd => ?_) q hq
      show (W.apply ((W.o p.d ⟨p.st, some p.o⟩).apply σ) (.f p.d false)).getF d = _
      rw [getF_f]
      split
      · rfl
      · exact hz d hd
  | back p hzp h0 ih =>
    intro σ hn hz q hq
    simp only [List.map_cons, List.nodup_cons] at hn
    rw [applyAll_cons]
    simp only [List.mem_cons] at hq
    rcases hq with rfl | hq
    · obtain ⟨h1, h2⟩ := h0.out ((W.o q.d ⟨q.st, some q.o⟩).apply σ) q.d hn.1
      refine ⟨h1.trans ?_, h2.trans (hz _ hzp)⟩
      rw [getO_o, if_pos rfl]
    · exact ih ((W.o p.d ⟨p.st, some p.o⟩).apply σ) hn.2 (fun d hd => hz d hd) q hq
end

def newsOf (σ : State) : Slot → NL → List New
  | _, [] => []
  | d, some p :: N => ⟨d, (σ.getO d).st + 1, p.1, p.2⟩ :: newsOf σ (d + 1) N
  | d, none :: N => newsOf σ (d + 1) N

theorem GW.ofMk {Z : Slot → Prop} (σ : State) : ∀ (N : NL) (d : Slot), GW Z (mkWs σ d N) (newsOf σ d N)
  | [], _ => .nil
  | some p :: N, d => .made ⟨d, (σ.getO d).st + 1, p.1, p.2⟩ (GW.ofMk σ N (d + 1))
  | none :: N, d => GW.ofMk σ N (d + 1)

theorem newsOf_regs (σ : State) : ∀ (N : NL) (d : Slot), (newsOf σ d N).map New.r = N.regs
  | [], _ => rfl
  | some p :: N, d => by simp only [newsOf, List.map_cons, newsOf_regs σ N]; rfl
  | none :: N, d => by simp only [newsOf, newsOf_regs σ N]; rfl

theorem newsOf_get (σ : State) : ∀ (N : NL) (d i : Nat) (p : Reg × Obj), N[i]? = some (some p) → (⟨d + i, (σ.getO (d + i)).st + 1, p.1, p.2⟩ : New) ∈ newsOf σ d N
  | [], _, _, _, h => by simp at h
  | some q :: N, d, i, p, h => by
    cases i with
    | zero => simp at h; subst h; simp [newsOf]
    | succ i =>
      have := newsOf_get σ N (d + 1) i p (by simpa using h)
      rw [show d + 1 + i = d + (i + 1) by omega] at this
      exact List.mem_cons_of_mem _ this
  | none :: N, d, i, p, h => by
    cases i with
    | zero => simp at h
    | succ i =>
      have := newsOf_get σ N (d + 1) i p (by simpa using h)
      rw [show d + 1 + i = d + (i + 1) by omega] at this
      exact this

theorem newsOf_mem (σ : State) : ∀ (N : NL) (d : Nat) (p : New), p ∈ newsOf σ d N → p.st = (σ.getO p.d).st + 1 ∧ some (p.r, p.o) ∈ N ∧ d ≤ p.d ∧ p.d < d + N.length
  | [], _, _, h => by cases h
  | none :: N, d, p, h => by
    obtain ⟨h1, h2, h3, h4⟩ := newsOf_mem σ N (d + 1) p h
    refine ⟨h1, by simp [h2], ?_, ?_⟩
    · exact Nat.le_of_succ_le h3
    · simp only [List.length_cons]
      have h4' : (p.d : Nat) < d + 1 + N.length := h4
      show (p.d : Nat) < d + (N.length + 1)
      rw [Nat.add_right_comm] at h4'
      exact h4'
  | some q :: N, d, p, h => by
    simp only [newsOf, List.mem_cons] at h
    rcases h with rfl | h
    · exact ⟨rfl, by simp, Nat.le_refl _, by simp⟩
    · obtain ⟨h1, h2, h3, h4⟩ := newsOf_mem σ N (d + 1) p h
      refine ⟨h1, by simp [h2], ?_, ?_⟩
      · exact Nat.le_of_succ_le h3
      · simp only [List.length_cons]
        have h4' : (p.d : Nat) < d + 1 + N.length := h4
        show (p.d : Nat) < d + (N.length + 1)
        rw [Nat.add_right_comm] at h4'
        exact h4'

theorem lies_of {σ : State} {V : View} {d : Slot} {N : NL} (h : ∀ p ∈ newsOf σ d N, V p.d = (p.st, some p.r)) : Lies σ V d N := fun i p hp => h _ (newsOf_get σ N d i p hp)

theorem Framed.trans {w0 w w' : World} {ext ext' : Nat → Nat → Prop} (h : Framed w0 ext w) (k : Framed w ext' w') (hs : ∀ b o, ext' b o → w0.heap.size ≤ b ∨ ext b o) : Framed w0 ext w' where
  os := k.os.trans h.os
  tape := k.tape.trans h.tape
  output := k.output.trans h.output
  size := Nat.le_trans h.size k.size
  same b hb := by
    have hb' : b < w.heap.size := Nat.lt_of_lt_of_le hb h.size
    rcases h.same b hb with h1 | ⟨c, c', e, fz, h1, h2, h3, h4⟩ <;> rcases k.same b hb' with k1 | ⟨d, d', e', fz', k1, k2, k3, k4⟩
    · exact .inl (k1.trans h1)
    · refine .inr ⟨d, d', e', fz', h1 ▸ k1, k2, k3, fun o ho => k4 o (fun hx => ?_)⟩
      rcases hs b o hx with h5 | h5
      · omega
      · exact ho h5
    · exact .inr ⟨c, c', e, fz, h1, k1.trans h2, h3, h4⟩
    · rw [h2] at k1
      simp only [Option.some.injEq, Go.Obj.cells.injEq] at k1
      obtain ⟨rfl, rfl, rfl⟩ := k1
      refine .inr ⟨c, d', e, fz, h1, k2, k3.trans h3, fun o ho => ?_⟩
      rw [k4 o (fun hx => ?_), h4 o ho]
      rcases hs b o hx with h5 | h5
      · omega
      · exact ho h5

theorem Framed.cell {w w' : World} {ext : Nat → Nat → Prop} (h : Framed w ext w') {b k : Nat} (hn : ¬ext b k) {v : Value} (hv : w.cell? ⟨b, k, none⟩ = some v) : w'.cell? ⟨b, k, none⟩ = some v := by
  have hb := block_lt_of_cell' hv
  rcases h.same b hb with h1 | ⟨c, c', e, fz, h1, h2, h3, h4⟩
  · rw [World.cell?_of_block (w := w) (a := ⟨b, k, none⟩) h1]; exact hv
  · rw [cell_of_row w b k c e fz h1] at hv
    rw [cell_of_row w' b k c' e fz h2, h4 k hn]
    exact hv
theorem Framed.there {w w' : World} {ext : Nat → Nat → Prop} (h : Framed w ext w') {b k : Nat} (hv : (w.cell? ⟨b, k, none⟩).isSome = true) : (w'.cell? ⟨b, k, none⟩).isSome = true := by
  obtain ⟨v, hv⟩ := Option.isSome_iff_exists.1 hv
  have hb := block_lt_of_cell' hv
  rcases h.same b hb with h1 | ⟨c, c', e, fz, h1, h2, h3, h4⟩
  · rw [World.cell?_of_block (w := w) (a := ⟨b, k, none⟩) h1, hv]; rfl
  · rw [cell_of_row w b k c e fz h1] at hv
    rw [cell_of_row w' b k c' e fz h2]
    have : k < c'.size := by rw [h3]; exact (Array.getElem?_eq_some_iff.1 hv).1
    simp [this]
theorem Framed.froz {w w' : World} {ext : Nat → Nat → Prop} (h : Framed w ext w') {b k : Nat} (hb : b < w.heap.size) : w'.frozen? ⟨b, k, none⟩ = w.frozen? ⟨b, k, none⟩ := by
  rcases h.same b hb with h1 | ⟨c, c', e, fz, h1, h2, h3, h4⟩
  · exact World.frozen?_of_block (w := w) (a := ⟨b, k, none⟩) h1
  · simp [World.frozen?, h1, h2]

section
variable {φ : Phi} {C : Fr} {θ : Slot → Reg} {μ μ' : Mem} {σ σ' : State} {a : Act} {w w' : World}

def regAt (θ : Slot → Reg) : List New → Slot → Reg
  | [], d => θ d
  | p :: G, d => if p.d = d then p.r else regAt θ G d

theorem regAt_out {θ : Slot → Reg} : ∀ {G : List New} {d : Slot}, d ∉ G.map New.d → regAt θ G d = θ d
  | [], _, _ => rfl
  | p :: G, d, h => by
    simp only [List.map_cons, List.mem_cons, not_or] at h
    simp only [regAt]
    rw [if_neg (fun e => h.1 e.symm), regAt_out h.2]
theorem regAt_in {θ : Slot → Reg} : ∀ {G : List New}, (G.map New.d).Nodup → ∀ p ∈ G, regAt θ G p.d = p.r
  | p :: G, hn, q, hq => by
    simp only [List.map_cons, List.nodup_cons] at hn
    simp only [List.mem_cons] at hq
    simp only [regAt]
    rcases hq with rfl | hq
    · simp
    · rw [if_neg (fun (e : p.d = q.d) => hn.1 (by rw [e]; exact List.mem_map_of_mem hq)), regAt_in hn.2 q hq]

theorem Inv.remake (h : Inv φ C θ μ σ a w) (moved : List Slot) (G : List New) (hn : (G.map New.d).Nodup)
    (hmoved : ∀ d ∈ moved, ∃ o, (σ.getO d).obj = some o)
    (hst : ∀ p ∈ G, p.st = (σ.getO p.d).st + 1 ∨ (p.st = (σ.getO p.d).st ∧ (∃ o, (σ.getO p.d).obj = some o) ∧ p.r = θ p.d))
    (ht : ∀ n, σ'.getT n = σ.getT n) (hlen : σ'.tm.length = σ.tm.length)
    (hO : ∀ p ∈ G, σ'.getO p.d = ⟨p.st, some p.o⟩)
    (hF : ∀ p ∈ G, σ'.getF p.d = false)
    (hO' : ∀ d, d ∉ G.map New.d → σ'.getO d = if d ∈ moved then ⟨(σ.getO d).st, none⟩ else σ.getO d)
    (hF' : ∀ d, d ∉ G.map New.d → σ'.getF d = σ.getF d)
    (hμ : μ.Le μ') (hsub : ∀ b k v, μ' b k = some v → w'.cell? ⟨b, k, none⟩ = some v)
    (hμ' : ∀ b k v, μ' b k = some v → μ b k = some v ∨ (∃ d ∈ moved, (θ d).Has b k) ∨ w.heap.size ≤ b)
    (hw : Framed w (fun b k => ∃ d ∈ moved, (θ d).Has b k) w')
    (happ : (G.map New.r).Pairwise Reg.Apart)
    (hin : ∀ p ∈ G, ∀ b k, p.r.Has b k → (∃ d ∈ moved, (θ d).Has b k) ∨ w.heap.size ≤ b)
    (hobj : ∀ V', VLe (viewOf σ θ) V' → (∀ p ∈ G, V' p.d = (p.st, some p.r)) → ∀ p ∈ G, ObjOK φ μ' V' w' p.r false p.o) :
    Inv φ C (regAt θ G) μ' σ' a w' ∧ VLe (viewOf σ θ) (viewOf σ' (regAt θ G)) ∧ ∀ p ∈ G, viewOf σ' (regAt θ G) p.d = (p.st, some p.r) := by
  have hvin : ∀ p ∈ G, viewOf σ' (regAt θ G) p.d = (p.st, some p.r) := by
    intro p hp
    simp [viewOf, hO p hp, regAt_in hn p hp]
  have hview : VLe (viewOf σ θ) (viewOf σ' (regAt θ G)) := by
    intro d
    by_cases hd : d ∈ G.map New.d
    · obtain ⟨p, hp, rfl⟩ := List.mem_map.1 hd
      rw [hvin p hp]
      rcases hst p hp with h1 | ⟨h1, ⟨o, ho⟩, h3⟩
      · right; left; simp only [viewOf, h1]; exact Nat.lt_succ_self _
      · left; simp only [viewOf, h1, ho, h3, Option.map_some]
    · simp only [viewOf, hO' d hd, regAt_out hd]
      split
      · exact .inr (.inr ⟨rfl, rfl⟩)
      · exact .inl rfl
  -- a slot that stays
  have stay : ∀ d od, d ∉ G.map New.d → (σ'.getO d).obj = some od → (σ.getO d).obj = some od ∧ d ∉ moved := by
    intro d od hd ho
    rw [hO' d hd] at ho
    split at ho
    · cases ho
    · exact ⟨ho, by assumption⟩
  have far : ∀ d od, d ∉ G.map New.d → (σ'.getO d).obj = some od → ∀ b k, (θ d).Has b k → ¬((∃ g ∈ moved, (θ g).Has b k) ∨ w.heap.size ≤ b) := by
    intro d od hd ho b k hb hor
    obtain ⟨ho', hdm⟩ := stay d od hd ho
    rcases hor with ⟨g, hg1, hg2⟩ | hge
    · obtain ⟨og, hog⟩ := hmoved g hg1
      exact h.apart d g od og (fun e => hdm (e ▸ hg1)) ho' hog b k hb hg2
    · have := (h.obj d od ho').lt hb
      omega
  have minePre : ∀ b k, ((∃ g ∈ moved, (θ g).Has b k) ∨ w.heap.size ≤ b) → C.Mine b k := by
    intro b k hor
    rcases hor with ⟨g, hg1, hg2⟩ | hge
    · obtain ⟨og, hog⟩ := hmoved g hg1
      exact h.mine g og hog b k hg2
    · exact .inl (Nat.le_trans h.frame.size hge)
  refine ⟨⟨by rw [hlen]; exact h.len, h.defers, ?_, h.gh.mono hview, ?_, ?_, ?_, hsub, h.le.trans hμ, ?_, ?_⟩, hview, hvin⟩
  · intro n; rw [ht]; exact (h.tmp n).mono hμ hview
  · intro d od ho
    by_cases hd : d ∈ G.map New.d
    · obtain ⟨p, hp, rfl⟩ := List.mem_map.1 hd
      rw [hO p hp] at ho
      simp only [Option.some.injEq] at ho
      subst ho
      rw [hF p hp, regAt_in hn p hp]
      exact hobj _ hview hvin p hp
    · obtain ⟨ho', hdm⟩ := stay d od hd ho
      rw [hF' d hd, regAt_out hd]
      have hok := h.obj d od ho'
      refine hok.kept hμ hview (fun b k v hb hv => hw.cell (fun hx => far d od hd ho b k hb (.inl hx)) hv) (fun b k hb => hw.froz (hok.lt hb)) ?_
      intro b k hb hnone
      cases hm : μ' b k with
      | none => rfl
      | some v =>
        rcases hμ' b k v hm with h1 | h1
        · rw [hnone] at h1; cases h1
        · exact (far d od hd ho b k hb h1).elim
  · intro d d' od od' hdd ho ho'
    by_cases hd : d ∈ G.map New.d
    · obtain ⟨p, hp, rfl⟩ := List.mem_map.1 hd
      rw [regAt_in hn p hp]
      by_cases hd' : d' ∈ G.map New.d
      · obtain ⟨q, hq, rfl⟩ := List.mem_map.1 hd'
        rw [regAt_in hn q hq]
        obtain ⟨i, hi, rfl⟩ := List.mem_iff_getElem.1 hp
        obtain ⟨j, hj, rfl⟩ := List.mem_iff_getElem.1 hq
        have hpw := List.pairwise_iff_getElem.1 happ
        rcases Nat.lt_trichotomy i j with hij | hij | hij
        · have := hpw i j (by simpa using hi) (by simpa using hj) hij
          simp only [List.getElem_map] at this
          exact this
        · subst hij; exact absurd rfl hdd
        · have := hpw j i (by simpa using hj) (by simpa using hi) hij
          simp only [List.getElem_map] at this
          exact this.symm
      · rw [regAt_out hd']
        intro b k h1 h2
        exact far d' od' hd' ho' b k h2 (hin p hp b k h1)
    · rw [regAt_out hd]
      by_cases hd' : d' ∈ G.map New.d
      · obtain ⟨q, hq, rfl⟩ := List.mem_map.1 hd'
        rw [regAt_in hn q hq]
        intro b k h1 h2
        exact far d od hd ho b k h1 (hin q hq b k h2)
      · rw [regAt_out hd']
        exact h.apart d d' od od' hdd (stay d od hd ho).1 (stay d' od' hd' ho').1
  · intro d od ho b k hb
    by_cases hd : d ∈ G.map New.d
    · obtain ⟨p, hp, rfl⟩ := List.mem_map.1 hd
      rw [regAt_in hn p hp] at hb
      exact minePre b k (hin p hp b k hb)
    · rw [regAt_out hd] at hb
      exact h.mine d od (stay d od hd ho).1 b k hb
  · intro b k v hm
    rcases hμ' b k v hm with h1 | h1
    · exact h.new b k v h1
    · exact .inr (minePre b k h1)
  · refine h.frame.trans hw fun b k hx => ?_
    exact minePre b k (.inl hx)
end
end Go.Vm
/- Arguments. -/
namespace Go.Vm

section
variable {φ : Phi} {C : Fr} {θ : Slot → Reg} {μ μ' : Mem} {σ : State} {a : Act} {w : World}

theorem Went.split {θ : Slot → Reg} {σ : State} : ∀ {A B : List Reg} {D : List Slot}, Went θ σ (A ++ B) D → ∃ D1 D2, D = D1 ++ D2 ∧ Went θ σ A D1 ∧ Went θ σ B D2
  | [], B, D, h => ⟨[], D, rfl, .nil, h⟩
  | r :: A, B, D, h => by
    cases h with
    | skip _ h0 h =>
      obtain ⟨D1, D2, rfl, h1, h2⟩ := Went.split h
      exact ⟨D1, D2, rfl, .skip r h0 h1, h2⟩
    | cons _ d g1 g2 g3 h =>
      obtain ⟨D1, D2, rfl, h1, h2⟩ := Went.split h
      exact ⟨d :: D1, D2, rfl, .cons r d g1 g2 g3 h1, h2⟩

theorem Went.more {θ : Slot → Reg} {σ : State} : ∀ {n : Nat} {F G : Nat → List Reg} {D : List Slot}, Went θ σ ((List.range n).flatMap F) D → (∀ j, G j = F j ∨ (F j = [] ∧ ∃ r : Reg, r.n = 0 ∧ G j = [r])) → Went θ σ ((List.range n).flatMap G) D
  | 0, F, G, D, h, _ => h
  | n + 1, F, G, D, h, hg => by
    rw [range_flatMap_succ] at h ⊢
    obtain ⟨D1, D2, rfl, h1, h2⟩ := h.split
    refine Went.append ?_ (Went.more h2 fun j => hg (j + 1))
    rcases hg 0 with h0 | ⟨h0, r, hr, h3⟩
    · rw [h0]; exact h1
    · rw [h3]; rw [h0] at h1; exact .skip r hr h1

theorem Own.emptyNil {e : Nat} (he : 0 < e) : Own φ μ w (.fresh e []) (.slice none 0 0) [⟨0, 0, 0, e, 0⟩] :=
  .fresh e [] ⟨0, 0, 0, e, 0⟩ none 0 he rfl rfl (by simp) (Nat.le_refl _) (fun h => absurd rfl h) (by simp) (by simp)

/-- One cell, owned where it is nil. -/
theorem Own.nf1 {c : AV} {v : Value} {L : List Reg} (h : Own φ μ w c v L) (k : Option Nat) : ∃ L', Own φ μ w (nf1 k c) v L' ∧ (L' = L ∨ (L = [] ∧ ∃ r : Reg, r.n = 0 ∧ L' = [r])) := by
  unfold Vm.nf1
  split
  · obtain ⟨hv, rfl⟩ := h.val_inv (by simp) (by simp) (by simp) (by simp)
    split
    · exact ⟨[], .val hv, .inl rfl⟩
    · cases hv
      exact ⟨_, .emptyNil (by omega), .inr ⟨rfl, _, rfl, rfl⟩⟩
  · obtain ⟨hv, rfl⟩ := h.val_inv (by simp) (by simp) (by simp) (by simp)
    cases hv
    exact ⟨[], .val (.slE _ _ _ (by simp)), .inl rfl⟩
  · exact ⟨L, h, .inl rfl⟩

theorem nfL_spec : ∀ (sh : Shape) (l : List AV), (nfL sh l).length = l.length ∧ ∀ (j : Nat) (c : AV), (nfL sh l)[j]? = some c → ∃ k c0, l[j]? = some c0 ∧ c = Vm.nf1 k c0 := by
  intro sh
  induction sh with
  | nil => intro l; exact ⟨by simp [nfL], fun j c hc => ⟨none, c, by simpa [nfL] using hc, by simp [Vm.nf1]⟩⟩
  | cons h hs ih =>
    intro l
    cases l with
    | nil => simp [nfL]
    | cons x xs =>
      obtain ⟨i1, i2⟩ := ih xs
      refine ⟨by simp [nfL, i1], fun j c hc => ?_⟩
      cases j with
      | zero => simp [nfL] at hc; exact ⟨h, x, by simp, hc.symm⟩
      | succ j => simpa using i2 j c (by simpa [nfL] using hc)

theorem Own.nf {y : AV} {v : Value} {L : List Reg} {D : List Slot} (h : Own φ μ w y v L) (hw : Went θ σ L D) (sh : Shape) : ∃ L', Own φ μ w (nf sh y) v L' ∧ Went θ σ L' D := by
  rcases y.agg_or with ⟨cs, rfl⟩ | ha
  · obtain ⟨vs, F, rfl, h1, rfl, h2⟩ := h.agg_inv
    obtain ⟨n1, n2⟩ := nfL_spec sh cs
    classical
    have each : ∀ j, ∃ L', (∀ (c : AV) (u : Value), (nfL sh cs)[j]? = some c → vs[j]? = some u → Own φ μ w c u L') ∧ (L' = F j ∨ (F j = [] ∧ ∃ r : Reg, r.n = 0 ∧ L' = [r])) := by
      intro j
      cases hc : (nfL sh cs)[j]? with
      | none => exact ⟨F j, by simp, .inl rfl⟩
      | some c =>
        cases hu : vs[j]? with
        | none => exact ⟨F j, by simp, .inl rfl⟩
        | some u =>
          obtain ⟨k, c0, g1, rfl⟩ := n2 j c hc
          obtain ⟨L', g2, g3⟩ := (h2 j c0 u g1 hu).nf1 k
          exact ⟨L', fun c u e1 e2 => by cases e1; cases e2; exact g2, g3⟩
    refine ⟨(List.range cs.length).flatMap fun j => Classical.choose (each j), ?_, hw.more fun j => (Classical.choose_spec (each j)).2⟩
    have := Own.agg (φ := φ) (μ := μ) (w := w) (nfL sh cs) vs (fun j => Classical.choose (each j)) (by rw [h1, n1]) (fun j c u hc hu => (Classical.choose_spec (each j)).1 c u hc hu)
    rw [n1] at this
    exact this
  · have e : Vm.nf sh y = Vm.nf1 (sh.headD none) y := by cases y <;> first | rfl | exact absurd rfl (ha _)
    rw [e]
    obtain ⟨L', g1, g2⟩ := h.nf1 (sh.headD none)
    refine ⟨L', g1, ?_⟩
    rcases g2 with rfl | ⟨rfl, r, hr, rfl⟩
    · exact hw
    · exact .skip r hr hw

theorem RV.nz {y : AV} {v : Value} (h : RV φ μ y v) (sh : Shape) : RV φ μ (nz sh y) v := by
  rcases y.agg_or with ⟨cs, rfl⟩ | ha
  · cases h with
    | agg _ vs h1 h2 =>
      obtain ⟨n1, n2⟩ := nzL_spec sh cs
      refine .agg _ vs (by rw [h1, n1]) fun j c u hc hu => ?_
      obtain ⟨k, c0, g1, rfl⟩ := n2 j c hc
      exact (h2 j c0 u g1 hu).nz1 k
  · have e : Vm.nz sh y = Vm.nz1 (sh.headD none) y := by cases y <;> first | rfl | exact absurd rfl (ha _)
    rw [e]; exact h.nz1 _

/-- What an argument that comes back was. -/
def BackOK (θ : Slot → Reg) (σ : State) (v : Value) (L : List Reg) (M : List Slot) : Back → Prop
  | .no => True
  | .part d st i off n => ∃ o x L' M', σ.getO d = ⟨st, some o⟩ ∧ o.var = true ∧ o.xs[i]? = some x ∧ 0 < n ∧ off + n ≤ x.cells.length ∧ v = .pointer (some ⟨(θ d).bl, (θ d).off + i * o.e + off, none⟩) ∧
      L = ⟨(θ d).bl, (θ d).off + i * o.e + off, n, n, 1⟩ :: L' ∧ M = d :: M' ∧ Went θ σ L' M' ∧ σ.getF d = false
  | .whole d st => ∃ o b cap, σ.getO d = ⟨st, some o⟩ ∧ o.var = false ∧ v = .slice b o.xs.length cap ∧ (cap ≠ 0 → b = some ⟨(θ d).bl, (θ d).off, none⟩) ∧ cap * o.e ≤ (θ d).n ∧ o.xs.length ≤ cap ∧
      L = [⟨(θ d).bl, (θ d).off, cap * o.e, o.e, o.xs.length⟩] ∧ M = [d] ∧ σ.getF d = false

structure SentOK (φ : Phi) (θ : Slot → Reg) (μ' : Mem) (σ : State) (w : World) (s : Sent) (v : Value) (L : List Reg) : Prop where
  own : Own φ μ' w s.a v L
  went : Went θ σ L s.moved
  back : BackOK θ σ v L s.moved s.back

theorem Inv.sendIo (h : Inv φ C θ μ σ a w) (hm : μ.Le μ') {d st i off n : Nat} {s : Sent} {v : Value} (hr : (Vm.sendIo d st i off n).run σ = some s) (hv : Rep φ μ (viewOf σ θ) (.ref d st i off) v) (hs : ∀ e ∈ s.read, Shut θ μ' σ w e) :
    ∃ L, SentOK φ θ μ' σ w s v L := by
  simp only [Vm.sendIo, R.run_bind] at hr
  cases hob : (theObj d st).run σ with
  | none => simp [hob] at hr
  | some o =>
    simp only [hob, Option.bind_some, run_frz] at hr
    have hd := run_theObj.1 hob
    split at hr
    · rename_i x hx
      split at hr
      · rename_i hc
        simp only [Bool.and_eq_true, Bool.not_eq_true', decide_eq_true_eq] at hc
        obtain ⟨⟨hvar, hz⟩, hn0, hle⟩ := hc
        simp only [R.run_bind] at hr
        cases hq : (expL depth ((x.cells.drop off).take n)).run σ with
        | none => simp [hq] at hr
        | some q =>
          obtain ⟨cs1, m2, r2⟩ := q
          simp only [hq, Option.bind_some, R.run_ret, Option.some.injEq] at hr
          subst hr
          have hok := h.obj d o (by rw [hd])
          have hv' := hv.ref_inv (viewOf_live hd)
          subst hv'
          have hsz := hok.size i x hx
          have hcell : ∀ (j : Nat) (c : AV), ((x.cells.drop off).take n)[j]? = some c → ∃ v, w.cell? ⟨(θ d).bl, (θ d).off + i * o.e + off + j, none⟩ = some v ∧ Rep φ μ (viewOf σ θ) c v := by
            intro j c hc
            have hc' : x.cells[off + j]? = some c := by
              rw [List.getElem?_take] at hc
              split at hc
              · rwa [List.getElem?_drop] at hc
              · cases hc
            obtain ⟨v, g1, g2, _⟩ := hok.cell i (off + j) x c hx hc'
            refine ⟨v, ?_, g2⟩
            rwa [← Nat.add_assoc] at g1
          have hlen : ((x.cells.drop off).take n).length = n := by simp; omega
          obtain ⟨g1, L, g2, g3⟩ := outs (μ' := μ') (h.exp hm depth) ((x.cells.drop off).take n) cs1 m2 r2 (fun j => (w.cell? ⟨(θ d).bl, (θ d).off + i * o.e + off + j, none⟩).getD undef) hq (fun j c hc => by
            obtain ⟨v, k1, k2⟩ := hcell j c hc
            rw [k1]; exact k2) (fun e he => hs e he)
          rw [hlen] at g1 g3
          have hi : i < o.xs.length := (List.getElem?_eq_some_iff.1 hx).1
          have hroom : (i + 1) * o.e ≤ (θ d).n := Nat.le_trans (Nat.mul_le_mul_right _ (Nat.le_trans hi hok.fit)) hok.room
          rw [Nat.add_mul, Nat.one_mul] at hroom
          refine ⟨⟨(θ d).bl, (θ d).off + i * o.e + off, n, n, 1⟩ :: (List.range n).flatMap L, ?_, ?_, ?_⟩
          · have := Own.inout (φ := φ) (μ := μ') (w := w) cs1 ⟨(θ d).bl, (θ d).off + i * o.e + off, n, n, 1⟩ L (fun j => (w.cell? ⟨(θ d).bl, (θ d).off + i * o.e + off + j, none⟩).getD undef)
              (by omega) g1.symm rfl g1.symm (fun j c hc => by
                have hj : j < ((x.cells.drop off).take n).length := by rw [hlen, ← g1]; exact (List.getElem?_eq_some_iff.1 hc).1
                obtain ⟨v, k1, _⟩ := hcell j _ (List.getElem?_eq_getElem hj)
                simp only
                rw [k1]; rfl) g2
            rw [g1] at this
            rw [hok.e]
            exact this
          · refine .cons _ _ ⟨o, by rw [hd]⟩ hz (fun b k hb => ?_) g3
            obtain ⟨q1, q2, q3⟩ := hb
            simp only at q1 q2 q3
            exact ⟨q1, by omega, by omega⟩
          · exact ⟨o, x, _, m2, hd, hvar, hx, hn0, hle, by rw [hok.e], rfl, rfl, g3, hz⟩
      · simp [R.run_fail] at hr
    · simp [R.run_fail] at hr

theorem Inv.sendVal (h : Inv φ C θ μ σ a w) (hm : μ.Le μ') {x : AV} {sh : Shape} {s : Sent} {v : Value} (hr : ((Vm.valR depth x).bind fun q => R.ret (⟨Vm.nz sh q.1, [], q.2, .no⟩ : Sent)).run σ = some s)
    (hv : Rep φ μ (viewOf σ θ) x v) (hs : ∀ e ∈ s.read, Shut θ μ' σ w e) : ∃ L, SentOK φ θ μ' σ w s v L := by
  simp only [R.run_bind] at hr
  cases hq : (Vm.valR depth x).run σ with
  | none => simp [hq] at hr
  | some q =>
    obtain ⟨y, ds⟩ := q
    simp only [hq, Option.bind_some, R.run_ret, Option.some.injEq] at hr
    subst hr
    exact ⟨[], .val ((h.valR hm depth x y ds v hq hv hs).nz sh), .nil, trivial⟩

theorem Inv.send (h : Inv φ C θ μ σ a w) (hm : μ.Le μ') {c : CArg} {s : Sent} {v : Value} (hr : (sendR c).run σ = some s) (hv : Rep φ μ (viewOf σ θ) (c.x.val σ) v) (hs : ∀ e ∈ s.read, Shut θ μ' σ w e) :
    ∃ L, SentOK φ θ μ' σ w s v L := by
  simp only [sendR, R.run_bind, Opnd.run_get, Option.bind_some] at hr
  generalize c.x.val σ = x at hr hv
  split at hr
  · exact h.sendIo hm hr hv hs
  · rename_i d st lo ln hmode
    simp only [R.run_bind] at hr
    cases hob : (theObj d st).run σ with
    | none => simp [hob] at hr
    | some o =>
      simp only [hob, Option.bind_some, run_frz] at hr
      split at hr
      · rename_i hc
        simp only [Bool.and_eq_true, Bool.not_eq_true', beq_iff_eq] at hc
        obtain ⟨⟨⟨hvar, hz⟩, hlo⟩, hln⟩ := hc
        simp only [R.run_ret, Option.some.injEq] at hr
        subst hr
        have hd := run_theObj.1 hob
        have hok := h.obj d o (by rw [hd])
        obtain ⟨b, cap, rfl, h1, h2, h3, h4⟩ := hv.sref_inv (viewOf_live hd)
        subst hlo hln
        have h2' : cap * o.e ≤ (θ d).n := by rw [← hok.e]; simpa using h2
        have h4' : cap ≠ 0 → b = some ⟨(θ d).bl, (θ d).off, none⟩ := fun hc => by simpa using h4 hc
        have hown := Own.fresh (φ := φ) (μ := μ') (w := w) o.e o.xs ⟨(θ d).bl, (θ d).off, cap * o.e, o.e, o.xs.length⟩ b cap hok.pos rfl rfl rfl h1 h4'
          (fun i x hx => ⟨hok.size _ x hx, hok.one hvar _ x hx⟩)
          (fun i j x c hx hc => by
            obtain ⟨v, g1, g2, g3, _⟩ := hok.cell i j x c hx hc
            exact ⟨v, g1, (g3 hvar).mono hm⟩)
        refine ⟨_, hown, .one ⟨o, by rw [hd]⟩ hz (fun b k hb => ?_), ⟨o, b, cap, hd, hvar, rfl, h4', h2', h1, rfl, rfl, hz⟩⟩
        obtain ⟨q1, q2, q3⟩ := hb
        simp only at q1 q2 q3
        exact ⟨q1, by omega, by omega⟩
      · exact h.sendVal hm hr hv hs
  · simp only [R.run_ret, Option.some.injEq] at hr
    subst hr
    obtain ⟨L', g1, g2⟩ := (Own.val (w := w) ((hv.toRV (by simp) (by simp) (by simp) (by simp) (by simp) (by simp) (by simp)).mono hm)).nf (Went.nil (θ := θ) (σ := σ)) c.sh
    exact ⟨L', g1, g2, trivial⟩
  · rename_i cs hmode
    simp only [R.run_bind] at hr
    cases hq : (expR depth (.agg cs)).run σ with
    | none => simp [hq] at hr
    | some q =>
      obtain ⟨y, mv, rd⟩ := q
      simp only [hq, Option.bind_some, R.run_ret, Option.some.injEq] at hr
      subst hr
      obtain ⟨L, g1, g2⟩ := h.exp hm depth _ y mv rd v hq hv hs
      obtain ⟨L', g3, g4⟩ := g1.nf g2 c.sh
      exact ⟨L', g3, g4, trivial⟩
  · exact h.sendVal hm hr hv hs

theorem Inv.sendC (h : Inv φ C θ μ σ a w) (hm : μ.Le μ') {x : AV} {s : Sent} {v : Value} (hr : (sendCap x).run σ = some s) (hv : Rep φ μ (viewOf σ θ) x v) (hs : ∀ e ∈ s.read, Shut θ μ' σ w e) :
    ∃ L, SentOK φ θ μ' σ w s v L := by
  unfold sendCap at hr
  split at hr
  · rename_i d st i off
    simp only [R.run_bind] at hr
    cases hob : (theObj d st).run σ with
    | none => simp [hob] at hr
    | some o =>
      simp only [hob, Option.bind_some] at hr
      split at hr
      · exact h.sendIo hm hr hv hs
      · simp [R.run_fail] at hr
  · refine h.sendVal (sh := []) hm ?_ hv hs
    rw [← hr]
    congr 1
    congr 1
    funext q
    have : Vm.nz [] q.1 = q.1 := by
      cases q.1 <;> simp [Vm.nz, Vm.nz1, nzL]
    rw [this]
end
end Go.Vm
/- What comes back from a call. -/
namespace Go.Vm

section
variable {φ : Phi} {C : Fr} {θ : Slot → Reg} {μ μ' : Mem} {σ : State} {a : Act} {w w' : World}

inductive Sents (φ : Phi) (θ : Slot → Reg) (μ' : Mem) (σ : State) (w : World) : List Sent → List Value → List (List Reg) → Prop
  | nil : Sents φ θ μ' σ w [] [] []
  | cons {s : Sent} {v : Value} {L : List Reg} {ss : List Sent} {vs : List Value} {Ls : List (List Reg)} : SentOK φ θ μ' σ w s v L → Sents φ θ μ' σ w ss vs Ls → Sents φ θ μ' σ w (s :: ss) (v :: vs) (L :: Ls)

inductive BacksOK (φ : Phi) (μ : Mem) (w : World) : List Value → List (Option AV) → List (List Reg) → Prop
  | nil : BacksOK φ μ w [] [] []
  | none {v : Value} {vs : List Value} {bs : List (Option AV)} {Ls : List (List Reg)} : BacksOK φ μ w vs bs Ls → BacksOK φ μ w (v :: vs) (none :: bs) ([] :: Ls)
  | some {v : Value} {x : AV} {L : List Reg} {vs : List Value} {bs : List (Option AV)} {Ls : List (List Reg)} : Own φ μ w x v L → BacksOK φ μ w vs bs Ls → BacksOK φ μ w (v :: vs) (some x :: bs) (L :: Ls)

theorem Sents.went {ss : List Sent} {vs : List Value} {Ls : List (List Reg)} (h : Sents φ θ μ' σ w ss vs Ls) : Went θ σ Ls.flatten (ss.flatMap (·.moved)) := by
  induction h with
  | nil => exact .nil
  | cons h _ ih => simpa using h.went.append ih

def Inside (T : List Reg) (b k : Nat) : Prop := ∃ r ∈ T, r.Has b k

theorem only (h : Inv φ C θ μ σ a w) {A B L' : List Reg} {D1 D2 M' : List Slot} {r0 : Reg} {d : Slot} (hA : Went θ σ A D1) (hB : Went θ σ B D2) (hL : Went θ σ L' M') (hd : ∃ o, (σ.getO d).obj = some o)
    (hn : (D1 ++ (d :: M') ++ D2).Nodup) {b k : Nat} (hb : (θ d).Has b k) (hin : Inside (A ++ (r0 :: L') ++ B) b k) : r0.Has b k := by
  obtain ⟨r, hr, hk⟩ := hin
  obtain ⟨od, hod⟩ := hd
  have bad : ∀ {L : List Reg} {D : List Slot}, Went θ σ L D → r ∈ L → d ∉ D → False := by
    intro L D hw hm hnd
    rcases hw.mem r hm with h0 | ⟨e, he, ⟨oe, hoe⟩, _, hsub⟩
    · exact Reg.none_of h0 hk
    · exact h.apart d e od oe (fun hde => hnd (hde ▸ he)) hod hoe b k hb (hsub b k hk)
  rw [List.nodup_append, List.nodup_append] at hn
  obtain ⟨⟨n1, n2, n3⟩, n4, n5⟩ := hn
  simp only [List.mem_append, List.mem_cons] at hr
  rcases hr with (hr | rfl | hr) | hr
  · exact (bad hA hr (fun hm => n3 d hm d (by simp) rfl)).elim
  · exact hk
  · exact (bad hL hr (List.nodup_cons.1 n2).1).elim
  · exact (bad hB hr (fun hm => n5 d (by simp) d hm rfl)).elim

/-- An object made anew, or one that comes back; with the region that it has of those handed over. -/
def Kind (θ : Slot → Reg) (σ : State) (T : List Reg) (M : List Slot) (x : New × Reg) : Prop :=
  (x.1.st = (σ.getO x.1.d).st + 1 ∧ x.1.r = x.2) ∨
  (x.1.st = (σ.getO x.1.d).st ∧ (∃ o, (σ.getO x.1.d).obj = some o) ∧ x.1.r = θ x.1.d ∧ x.1.d ∈ M ∧ σ.getF x.1.d = false ∧ ∀ b k, (θ x.1.d).Has b k → Inside T b k → x.2.Has b k)

structure Came (φ : Phi) (θ : Slot → Reg) (μ' : Mem) (σ : State) (w' : World) (T : List Reg) (M : List Slot) (ws : List W) (Lb : List Reg) (K : List (New × Reg)) : Prop where
  ws : GW (fun d => σ.getF d = false) ws (K.map Prod.fst)
  regs : K.map Prod.snd = Lb
  kind : ∀ x ∈ K, Kind θ σ T M x
  obj : ∀ V', VLe (viewOf σ θ) V' → (∀ x ∈ K, V' x.1.d = (x.1.st, some x.1.r)) → ∀ x ∈ K, ObjOK φ μ' V' w' x.1.r false x.1.o

theorem Came.append {T : List Reg} {M : List Slot} {ws ws2 : List W} {Lb Lb2 : List Reg} {K K2 : List (New × Reg)} (h : Came φ θ μ' σ w' T M ws Lb K) (k : Came φ θ μ' σ w' T M ws2 Lb2 K2) :
    Came φ θ μ' σ w' T M (ws ++ ws2) (Lb ++ Lb2) (K ++ K2) where
  ws := by rw [List.map_append]; exact h.ws.append k.ws
  regs := by rw [List.map_append, h.regs, k.regs]
  kind x hx := by
    rcases List.mem_append.1 hx with hx | hx
    · exact h.kind x hx
    · exact k.kind x hx
  obj V' hV hl x hx := by
    rcases List.mem_append.1 hx with hx | hx
    · exact h.obj V' hV (fun y hy => hl y (by simp [hy])) x hx
    · exact k.obj V' hV (fun y hy => hl y (by simp [hy])) x hx

theorem newsOf_map (σ : State) (N : NL) (d : Slot) : ((newsOf σ d N).map fun p => (p, p.r)).map Prod.fst = newsOf σ d N := by
  rw [List.map_map]
  exact List.map_id _

theorem Came.made {T : List Reg} {M : List Slot} {σ0 : State} (hO : ∀ d, σ0.getO d = σ.getO d) {d : Slot} {N : NL} {L : List Reg} (hN : N.regs = L)
    (hobj : ∀ V, Lies σ0 V d N → ∀ p, some p ∈ N → ObjOK φ μ' V w' p.1 false p.2) : Came φ θ μ' σ w' T M (mkWs σ0 d N) L ((newsOf σ0 d N).map fun p => (p, p.r)) where
  ws := by rw [newsOf_map]; exact .ofMk σ0 N d
  regs := by
    rw [List.map_map, ← hN, ← newsOf_regs σ0 N d]
    rfl
  kind x hx := by
    simp only [List.mem_map] at hx
    obtain ⟨p, hp, rfl⟩ := hx
    obtain ⟨h1, _⟩ := newsOf_mem σ0 N d p hp
    exact .inl ⟨by simp only; rw [h1, hO], rfl⟩
  obj V' _ hl x hx := by
    simp only [List.mem_map] at hx
    obtain ⟨p, hp, rfl⟩ := hx
    obtain ⟨_, h2, _⟩ := newsOf_mem σ0 N d p hp
    exact hobj V' (lies_of fun q hq => hl (q, q.r) (List.mem_map_of_mem hq)) (p.r, p.o) h2

theorem repl_get : ∀ (vs cs : List AV) (off j : Nat), off + vs.length ≤ cs.length → (repl cs off vs)[j]? = if off ≤ j ∧ j < off + vs.length then vs[j - off]? else cs[j]? := by
  intro vs
  induction vs with
  | nil => intro cs off j _; simp only [repl, List.length_nil]; rw [if_neg (by omega)]
  | cons v vs ih =>
    intro cs off j hle
    simp only [List.length_cons] at hle
    simp only [repl]
    rw [ih _ _ _ (by simp; omega)]
    by_cases h1 : off + 1 ≤ j ∧ j < off + 1 + vs.length
    · rw [if_pos h1, if_pos (by simp only [List.length_cons]; omega), show j - off = (j - (off + 1)) + 1 by omega]
      simp
    · rw [if_neg h1]
      by_cases h2 : j = off
      · subst h2
        rw [if_pos (by simp only [List.length_cons]; omega), Nat.sub_self, List.getElem?_set_self (by omega)]
        simp
      · rw [if_neg (by simp only [List.length_cons]; omega), List.getElem?_set_ne (fun e => h2 e.symm)]

/-- The cells of an element after some were replaced. -/
theorem upd_get {x : AV} {off : Nat} {vs : List AV} (hle : off + vs.length ≤ x.cells.length) (hv : 0 < vs.length) (hone : ∀ v ∈ vs, ∀ cs, v ≠ .agg cs) :
    (x.upd off vs).cells.length = x.cells.length ∧ ∀ j, (x.upd off vs).cells[j]? = if off ≤ j ∧ j < off + vs.length then vs[j - off]? else x.cells[j]? := by
  have len : ∀ (vs cs : List AV) (off : Nat), (repl cs off vs).length = cs.length := by
    intro vs
    induction vs with
    | nil => intro cs off; rfl
    | cons v vs ih => intro cs off; simp [repl, ih]
  rcases x.agg_or with ⟨cs, rfl⟩ | ha
  · simp only [AV.upd, AV.cells] at hle ⊢
    exact ⟨len _ _ _, fun j => repl_get vs cs off j hle⟩
  · rw [AV.cells_one ha] at hle ⊢
    simp only [List.length_singleton] at hle
    have h1 : vs.length = 1 := by omega
    have h0 : off = 0 := by omega
    subst h0
    cases vs with
    | nil => simp at hv
    | cons v r =>
      cases r with
      | cons _ _ => simp at h1
      | nil =>
        have e : x.upd 0 [v] = v := by cases x <;> first | rfl | exact absurd rfl (ha _)
        have hvn := hone v (by simp)
        rw [e, AV.cells_one hvn]
        refine ⟨rfl, fun j => ?_⟩
        cases j with
        | zero => simp
        | succ j => simp

theorem frame_of {T : List Reg} {M : List Slot} (hT : Went θ σ T M) {b k : Nat} (h : Inside T b k) : ∃ d ∈ M, (θ d).Has b k := by
  obtain ⟨r, hr, hk⟩ := h
  rcases hT.mem r hr with h0 | ⟨d, hd, _, _, hs⟩
  · exact (Reg.none_of h0 hk).elim
  · exact ⟨d, hd, hs b k hk⟩

/-- The part of an object that was handed over. -/
theorem came_part (h : Inv φ C θ μ σ a w) (hle : μ.Le μ') {T : List Reg} {r0 : Reg} {d st i off n : Nat} {o : Obj} {x : AV} {cs : List AV} {r : Reg}
    (hd : σ.getO d = ⟨st, some o⟩) (hvar : o.var = true) (hx : o.xs[i]? = some x) (hn0 : 0 < n) (hfit : off + n ≤ x.cells.length) (hz : σ.getF d = false)
    (hr0 : r0 = ⟨(θ d).bl, (θ d).off + i * o.e + off, n, n, 1⟩) (hinr0 : r0 ∈ T) (honly : ∀ b k, (θ d).Has b k → Inside T b k → r0.Has b k)
    (hw : Framed w (Inside T) w') (hnew : ∀ b k v, μ' b k = some v → μ b k = some v ∨ w.heap.size ≤ b ∨ Inside T b k)
    (hbl : r.bl = r0.bl) (hoff : r.off = r0.off) (hrn : r.n = n) (hrok : RegOK μ' w' r) (hcs : cs.length = n) (hone : ∀ v ∈ cs, ∀ cs, v ≠ .agg cs)
    {V' : View} (hV : VLe (viewOf σ θ) V') (hcell : ∀ (j : Nat) (c : AV), cs[j]? = some c → ∃ v, w'.cell? ⟨r.bl, r.off + j, none⟩ = some v ∧ Rep φ μ' V' c v) :
    ObjOK φ μ' V' w' (θ d) false { o with xs := o.xs.set i (x.upd off cs) } := by
  subst hr0
  simp only at hbl hoff
  have hok := h.obj d o (by rw [hd])
  have hi : i < o.xs.length := (List.getElem?_eq_some_iff.1 hx).1
  have hsz := hok.size i x hx
  obtain ⟨u1, u2⟩ := upd_get (x := x) (off := off) (vs := cs) (by omega) (by omega) hone
  have hset : ∀ (k : Nat) (y : AV), (o.xs.set i (x.upd off cs))[k]? = some y → (k = i ∧ y = x.upd off cs) ∨ (k ≠ i ∧ o.xs[k]? = some y) := by
    intro k y hy
    by_cases hk : i = k
    · subst hk
      rw [List.getElem?_set_self hi] at hy
      cases hy
      exact .inl ⟨rfl, rfl⟩
    · rw [List.getElem?_set_ne hk] at hy
      exact .inr ⟨fun e => hk e.symm, hy⟩
  have hlt : ∀ k, k < (θ d).n → (θ d).bl < w.heap.size := by
    intro k hk
    obtain ⟨v, hv⟩ := Option.isSome_iff_exists.1 (hok.there k hk)
    exact block_lt_of_cell' hv
  -- a cell outside the part
  have keep : ∀ (k j : Nat) (y c : AV), o.xs[k]? = some y → y.cells[j]? = some c → ¬(k = i ∧ off ≤ j ∧ j < off + n) → ∃ v, w'.cell? ⟨(θ d).bl, (θ d).off + k * o.e + j, none⟩ = some v ∧ Rep φ μ' V' c v := by
    intro k j y c hy hc hout
    obtain ⟨v, g1, g2, _⟩ := hok.cell k j y c hy hc
    refine ⟨v, hw.cell (fun hx' => hout ?_) g1, g2.mono hle hV⟩
    obtain ⟨_, q2, q3⟩ := honly _ _ (hok.has hy hc) hx'
    simp only at q2 q3
    have hj : j < y.cells.length := (List.getElem?_eq_some_iff.1 hc).1
    rw [hok.size k y hy] at hj
    rcases Nat.lt_trichotomy k i with hki | hki | hki
    · have := Nat.mul_le_mul_right o.e (show k + 1 ≤ i by omega)
      rw [Nat.add_mul, Nat.one_mul] at this
      omega
    · subst hki; exact ⟨rfl, by omega, by omega⟩
    · have := Nat.mul_le_mul_right o.e (show i + 1 ≤ k by omega)
      rw [Nat.add_mul, Nat.one_mul] at this
      omega
  refine ⟨hok.e, hok.pos, hok.cap, by simpa using hok.fit, hok.room, ?_, fun hv => (by simp only at hv; rw [hvar] at hv; cases hv), ?_, fun k hk => hw.there (hok.there k hk), fun k hk => by rw [hw.froz (hlt k hk)]; exact hok.soft k hk, ?_⟩
  · intro k y hy
    rcases hset k y hy with ⟨rfl, rfl⟩ | ⟨_, hy⟩
    · rw [u1]; exact hsz
    · exact hok.size k y hy
  · intro k j y c hy hc
    have fin : (∃ v, w'.cell? ⟨(θ d).bl, (θ d).off + k * o.e + j, none⟩ = some v ∧ Rep φ μ' V' c v) → ∃ v, w'.cell? ⟨(θ d).bl, (θ d).off + k * o.e + j, none⟩ = some v ∧ Rep φ μ' V' c v ∧ (o.var = false → RV φ μ' c v) ∧ (false = true → μ' (θ d).bl ((θ d).off + k * o.e + j) = some v) := by
      rintro ⟨v, g1, g2⟩
      exact ⟨v, g1, g2, fun hv => (by rw [hvar] at hv; cases hv), fun hv => (by cases hv)⟩
    refine fin ?_
    rcases hset k y hy with ⟨rfl, rfl⟩ | ⟨hk, hy⟩
    · rw [u2] at hc
      split at hc
      · rename_i hj
        obtain ⟨v, g1, g2⟩ := hcell (j - off) c hc
        refine ⟨v, ?_, g2⟩
        rw [hbl, hoff] at g1
        rw [show (θ d).off + k * o.e + off + (j - off) = (θ d).off + k * o.e + j by omega] at g1
        exact g1
      · rename_i hj
        exact keep k j x c hx hc (fun hh => hj (by omega))
    · exact keep k j y c hy hc (fun hh => hk hh.1)
  · intro k hk _
    cases hm : μ' (θ d).bl ((θ d).off + k) with
    | none => rfl
    | some v =>
      rcases hnew _ _ _ hm with h1 | h1 | h1
      · rw [hok.free k hk (.inl hz)] at h1; cases h1
      · have := hlt k hk; omega
      · obtain ⟨_, q2, q3⟩ := honly _ _ ⟨rfl, by omega, by omega⟩ h1
        simp only at q2 q3
        have := hrok.free ((θ d).off + k - r.off) (by omega)
        rw [hbl, show r.off + ((θ d).off + k - r.off) = (θ d).off + k by omega] at this
        rw [this] at hm; cases hm

/-- A slice that was handed over whole. -/
theorem came_whole (h : Inv φ C θ μ σ a w) {T : List Reg} {r0 r : Reg} {d st e : Nat} {o : Obj} {xs : List AV} {cap : Nat}
    (hd : σ.getO d = ⟨st, some o⟩) (hvar : o.var = false) (hz : σ.getF d = false)
    (hr0 : r0 = ⟨(θ d).bl, (θ d).off, cap * o.e, o.e, o.xs.length⟩) (hcap : cap * o.e ≤ (θ d).n) (honly : ∀ b k, (θ d).Has b k → Inside T b k → r0.Has b k)
    (hw : Framed w (Inside T) w') (hnew : ∀ b k v, μ' b k = some v → μ b k = some v ∨ w.heap.size ≤ b ∨ Inside T b k)
    (hbl : cap ≠ 0 → r.bl = (θ d).bl ∧ r.off = (θ d).off) (hrn : r.n = cap * e) (hrok : RegOK μ' w' r) (he : o.e = e) (hlen : xs.length = o.xs.length) (hfitc : xs.length ≤ cap)
    {V' : View} (hsize : ∀ (i : Nat) (x : AV), xs[i]? = some x → x.cells.length = e ∧ x.cells.all AV.one = true)
    (hcell : ∀ (i j : Nat) (x c : AV), xs[i]? = some x → x.cells[j]? = some c → ∃ v, w'.cell? ⟨r.bl, r.off + i * e + j, none⟩ = some v ∧ RV φ μ' c v) :
    ObjOK φ μ' V' w' (θ d) false ⟨e, xs, false, o.cap⟩ := by
  subst hr0 he
  have hok := h.obj d o (by rw [hd])
  have hlt : ∀ k, k < (θ d).n → (θ d).bl < w.heap.size := by
    intro k hk
    obtain ⟨v, hv⟩ := Option.isSome_iff_exists.1 (hok.there k hk)
    exact block_lt_of_cell' hv
  refine ⟨hok.e, hok.pos, hok.cap, by simp only; rw [hlen]; exact hok.fit, hok.room, fun i x hx => (hsize i x hx).1, fun _ i x hx => (hsize i x hx).2, ?_, fun k hk => hw.there (hok.there k hk), fun k hk => by rw [hw.froz (hlt k hk)]; exact hok.soft k hk, ?_⟩
  · intro i j x c hx hc
    obtain ⟨v, g1, g2⟩ := hcell i j x c hx hc
    have hi : i < xs.length := (List.getElem?_eq_some_iff.1 hx).1
    obtain ⟨b1, b2⟩ := hbl (by omega)
    rw [b1, b2] at g1
    exact ⟨v, g1, .val g2, fun _ => g2, fun hv => (by cases hv)⟩
  · intro k hk _
    cases hm : μ' (θ d).bl ((θ d).off + k) with
    | none => rfl
    | some v =>
      rcases hnew _ _ _ hm with h1 | h1 | h1
      · rw [hok.free k hk (.inl hz)] at h1; cases h1
      · have := hlt k hk; omega
      · obtain ⟨_, q2, q3⟩ := honly _ _ ⟨rfl, by omega, by omega⟩ h1
        simp only at q2 q3
        have hk' : k < cap * o.e := by omega
        have hc0 : cap ≠ 0 := fun h0 => by subst h0; simp at hk'
        obtain ⟨b1, b2⟩ := hbl hc0
        have := hrok.free k (by rw [hrn]; exact hk')
        rw [b1, b2] at this
        rw [this] at hm; cases hm
end
end Go.Vm
/- What comes back from a call, all of it. -/
namespace Go.Vm

section
variable {φ : Phi} {C : Fr} {θ : Slot → Reg} {μ μ' : Mem} {σ : State} {a : Act} {w w' : World}

theorem Own.inout_inv {cs : List AV} {v : Value} {L : List Reg} (h : Own φ μ w (.inout cs) v L) : ∃ (r : Reg) (F : Nat → List Reg) (f : Nat → Value), v = .pointer (some ⟨r.bl, r.off, none⟩) ∧ L = r :: (List.range cs.length).flatMap F ∧
    0 < cs.length ∧ r.e = cs.length ∧ r.c = 1 ∧ r.n = cs.length ∧ (∀ (j : Nat) (c : AV), cs[j]? = some c → w.cell? ⟨r.bl, r.off + j, none⟩ = some (f j)) ∧ (∀ (j : Nat) (c : AV), cs[j]? = some c → Own φ μ w c (f j) (F j)) := by
  cases h with
  | val h => cases h
  | inout _ r F f h1 h2 h3 h4 h5 h6 => exact ⟨r, F, f, rfl, rfl, h1, h2, h3, h4, h5, h6⟩

theorem Own.fresh_inv {e : Nat} {xs : List AV} {v : Value} {L : List Reg} (h : Own φ μ w (.fresh e xs) v L) : ∃ (r : Reg) (b : Option Addr) (cap : Nat), v = .slice b xs.length cap ∧ L = [r] ∧ 0 < e ∧ r.e = e ∧ r.c = xs.length ∧ r.n = cap * e ∧ xs.length ≤ cap ∧
    (cap ≠ 0 → b = some ⟨r.bl, r.off, none⟩) ∧ (∀ (i : Nat) (x : AV), xs[i]? = some x → x.cells.length = e ∧ x.cells.all AV.one = true) ∧
    (∀ (i j : Nat) (x c : AV), xs[i]? = some x → x.cells[j]? = some c → ∃ v, w.cell? ⟨r.bl, r.off + i * e + j, none⟩ = some v ∧ RV φ μ c v) := by
  cases h with
  | val h => cases h
  | fresh _ _ r b cap h1 h2 h3 h4 h5 h6 h7 h8 => exact ⟨r, b, cap, rfl, rfl, h1, h2, h3, h4, h5, h6, h7, h8⟩

theorem Came.nil {T : List Reg} {M : List Slot} : Came φ θ μ' σ w' T M [] [] [] := ⟨.nil, rfl, by simp, by simp⟩

theorem backs (h : Inv φ C θ μ σ a w) (hle : μ.Le μ') {σ0 : State} (hO : ∀ d, σ0.getO d = σ.getO d) {T : List Reg} {M : List Slot} (hM : M.Nodup) {t : Nat}
    (hw : Framed w (Inside T) w') (hnew : ∀ b k v, μ' b k = some v → μ b k = some v ∨ w.heap.size ≤ b ∨ Inside T b k) {μ1 : Mem} :
    ∀ (ss : List Sent) (vs : List Value) (Ls : List (List Reg)) (bs : List (Option AV)) (Lbs : List (List Reg)) (k : Nat) (ws : List W) (A : List Reg) (D : List Slot),
      (backR t k ss bs).run σ0 = some ws → Sents φ θ μ1 σ w ss vs Ls → BacksOK φ μ' w' vs bs Lbs → (∀ q ∈ Lbs.flatten, RegOK μ' w' q) →
      T = A ++ Ls.flatten → M = D ++ ss.flatMap (·.moved) → Went θ σ A D → ∃ K, Came φ θ μ' σ w' T M ws Lbs.flatten K := by
  intro ss
  induction ss with
  | nil =>
    intro vs Ls bs Lbs k ws A D hr hs hb _ _ _ _
    cases hs
    cases hb
    simp only [backR, R.run_ret, Option.some.injEq] at hr
    subst hr
    exact ⟨[], .nil⟩
  | cons s ss ih =>
    intro vs Ls bs Lbs k ws A D hr hs hb hrok hT hMe hA
    cases hs with
    | @cons _ v L _ vs Ls hs1 hs2 =>
      have hT' : T = (A ++ L) ++ Ls.flatten := by rw [hT]; simp
      have hM' : M = (D ++ s.moved) ++ ss.flatMap (·.moved) := by rw [hMe]; simp
      have hA' : Went θ σ (A ++ L) (D ++ s.moved) := hA.append hs1.went
      cases hb with
      | @none _ _ bs Lbs hb =>
        have hk : (backR t k ss bs).run σ0 = some ws := by
          simp only [backR] at hr
          split at hr
          · exact hr
          · rename_i heq; cases heq
          · rename_i heq; cases heq
          · exact hr
          · simp [R.run_fail] at hr
        obtain ⟨K, hK⟩ := ih vs Ls bs Lbs k ws (A ++ L) (D ++ s.moved) hk hs2 hb (fun q hq => hrok q (by simpa using hq)) hT' hM' hA'
        exact ⟨K, by simpa using hK⟩
      | @some _ x Lb _ bs Lbs hown hb =>
        have hback := hs1.back
        simp only [backR] at hr
        split at hr
        · rename_i heq; cases heq
        · -- a part
          rename_i d st i off n cs hsb heq
          cases heq
          rw [hsb] at hback
          obtain ⟨o, x, L', M', hd, hvar, hx, hn0, hfit, hv, rfl, hmv, hL', hz⟩ := hback
          split at hr
          · rename_i hlen
            simp only [beq_iff_eq] at hlen
            simp only [R.run_bind] at hr
            cases hq : (impR t depth k (.agg cs)).run σ0 with
            | none => simp [hq] at hr
            | some q =>
              obtain ⟨y, ws1, k1⟩ := q
              simp only [hq, Option.bind_some] at hr
              split at hr
              · rename_i _ cs'
                simp only [R.run_bind] at hr
                cases hob : (theObj d st).run σ0 with
                | none => simp [hob] at hr
                | some o' =>
                  have ho' : o = o' := by
                    have := run_theObj.1 hob
                    rw [hO, hd] at this
                    cases this; rfl
                  subst ho'
                  simp only [hob, Option.bind_some, hx] at hr
                  split at hr
                  · simp [R.run_fail] at hr
                  · rename_i hplain
                    simp only [Bool.not_eq_true, Bool.not_eq_false'] at hplain
                    simp only [R.run_bind] at hr
                    cases hb2 : (backR t k1 ss bs).run σ0 with
                    | none => simp [hb2] at hr
                    | some ws2 =>
                      simp only [hb2, Option.bind_some, R.run_ret, Option.some.injEq] at hr
                      subst hr
                      obtain ⟨r, F, f, hv2, rfl, p1, p2, p3, p4, p5, p6⟩ := hown.inout_inv
                      rw [hv] at hv2
                      simp only [Value.pointer.injEq, Option.some.injEq, Addr.mk.injEq] at hv2
                      obtain ⟨hbl, hoff, _⟩ := hv2
                      have hrokr : ∀ q ∈ r :: (List.range cs.length).flatMap F, RegOK μ' w' q := fun q hq => hrok q (by simp only [List.flatten_cons, List.mem_append]; exact .inl hq)
                      -- what lies inside
                      have hagg : Own φ μ' w' (.agg cs) (.agg ((List.range cs.length).map f).toArray) ((List.range cs.length).flatMap F) := by
                        refine .agg cs _ F (by simp) fun j c u hc hu => ?_
                        have hj : j < cs.length := (List.getElem?_eq_some_iff.1 hc).1
                        simp only [List.getElem?_toArray, List.getElem?_map, List.getElem?_range hj, Option.map_some, Option.some.injEq] at hu
                        subst hu
                        exact p6 j c hc
                      obtain ⟨N, n1, n2, n3, _, n4⟩ := imp_spec depth k _ _ _ _ _ _ hq hagg (fun q hq => hrokr q (List.mem_cons_of_mem _ hq))
                      have hlen' : cs'.length = cs.length := by
                        obtain ⟨rp, _⟩ := n4 (fun d' => if 64 * t + k ≤ d' then ((σ0.getO d').st + 1, ((N[d' - (64 * t + k)]?).join).map Prod.fst) else (0, none)) (fun i p hp => by
                          have e : 64 * t + k + i - (64 * t + k) = i := by omega
                          simp [e, hp])
                        obtain ⟨vs', e1, e2, _⟩ := rp.agg_inv
                        simp only [Value.agg.injEq] at e1
                        subst e1
                        simpa using e2.symm
                      have hnest : Came φ θ μ' σ w' T M ws1 ((List.range cs.length).flatMap F) ((newsOf σ0 (64 * t + k) N).map fun p => (p, p.r)) := by
                        rw [n2]
                        exact Came.made hO n1 fun V hV p hp => (n4 V hV).2 p hp
                      obtain ⟨K, hK⟩ := ih vs Ls bs Lbs k1 ws2 _ _ hb2 hs2 hb (fun q hq => hrok q (by simp only [List.flatten_cons, List.mem_append]; exact .inr hq)) hT' hM' hA'
                      have honly : ∀ b k, (θ d).Has b k → Inside T b k → (⟨(θ d).bl, (θ d).off + i * o.e + off, n, n, 1⟩ : Reg).Has b k := by
                        intro b k g1 g2
                        refine only h hA hs2.went hL' ⟨o, by rw [hd]⟩ ?_ g1 (L' := L') (by rw [hT', List.append_assoc] at g2; simpa using g2)
                        rw [hM', hmv] at hM
                        simpa using hM
                      have hone : ∀ v ∈ cs', ∀ zs, v ≠ .agg zs := by
                        intro v hv zs hz
                        rw [List.all_eq_true] at hplain
                        have := hplain v hv
                        subst hz
                        cases this
                      have hd' : (σ.getO d).st = st := by rw [hd]
                      let new : New := ⟨d, st, θ d, { o with xs := o.xs.set i (x.upd off cs') }⟩
                      refine ⟨(new, r) :: (((newsOf σ0 (64 * t + k) N).map fun p => (p, p.r)) ++ K), ?_, ?_, ?_, ?_⟩
                      · simp only [List.map_cons, List.map_append]
                        refine GW.back new hz ?_
                        exact hnest.ws.append hK.ws
                      · simp only [List.map_cons, List.map_append, hnest.regs, hK.regs, List.flatten_cons, List.cons_append]
                      · intro y hy
                        simp only [List.mem_cons, List.mem_append] at hy
                        rcases hy with rfl | hy | hy
                        · refine .inr ⟨hd'.symm, ⟨o, by simp only [new]; rw [hd]⟩, rfl, ?_, hz, fun b k g1 g2 => ?_⟩
                          · rw [hMe]; simp [hmv, new]
                          · obtain ⟨q1, q2, q3⟩ := honly b k g1 g2
                            simp only at q1 q2 q3
                            exact ⟨by rw [← hbl]; exact q1, by rw [← hoff]; exact q2, by rw [← hoff, p4, hlen]; exact q3⟩
                        · exact hnest.kind y hy
                        · exact hK.kind y hy
                      · intro V' hV hl y hy
                        simp only [List.mem_cons, List.mem_append] at hy
                        have hnl : ∀ y ∈ (newsOf σ0 (64 * t + k) N).map fun p => (p, p.r), V' y.1.d = (y.1.st, some y.1.r) := fun y hy => hl y (by simp only [List.mem_cons, List.mem_append]; exact .inr (.inl hy))
                        rcases hy with rfl | hy | hy
                        · have hlies : Lies σ0 V' (64 * t + k) N := lies_of fun q hq => hnl (q, q.r) (List.mem_map_of_mem hq)
                          obtain ⟨rp, _⟩ := n4 V' hlies
                          obtain ⟨vs', e1, e2, e3⟩ := rp.agg_inv
                          simp only [Value.agg.injEq] at e1
                          subst e1
                          refine came_part h hle hd hvar hx hn0 hfit hz rfl (by rw [hT]; simp) honly hw hnew (r := r) hbl.symm hoff.symm (by rw [p4, hlen]) (hrokr r (by simp)) (by rw [hlen', hlen]) hone hV ?_
                          intro j c hc
                          have hj : j < cs.length := by rw [← hlen']; exact (List.getElem?_eq_some_iff.1 hc).1
                          refine ⟨f j, p5 j _ (List.getElem?_eq_getElem hj), e3 j c (f j) hc ?_⟩
                          simp only [List.getElem?_toArray, List.getElem?_map, List.getElem?_range hj, Option.map_some]
                        · exact hnest.obj V' hV hnl y hy
                        · exact hK.obj V' hV (fun z hz => hl z (by simp only [List.mem_cons, List.mem_append]; exact .inr (.inr hz))) y hy
              · simp [R.run_fail] at hr
          · simp [R.run_fail] at hr
        · -- a whole slice
          rename_i d st e xs hsb heq
          cases heq
          rw [hsb] at hback
          obtain ⟨o, b, cap, hd, hvar, hv, hbb, hcap, hfc, rfl, hmv, hz⟩ := hback
          simp only [R.run_bind] at hr
          cases hob : (theObj d st).run σ0 with
          | none => simp [hob] at hr
          | some o' =>
            have ho' : o = o' := by
              have := run_theObj.1 hob
              rw [hO, hd] at this
              cases this; rfl
            subst ho'
            simp only [hob, Option.bind_some] at hr
            split at hr
            · rename_i hc
              simp only [Bool.and_eq_true, beq_iff_eq] at hc
              obtain ⟨he, hlen⟩ := hc
              simp only [R.run_bind] at hr
              cases hb2 : (backR t k ss bs).run σ0 with
              | none => simp [hb2] at hr
              | some ws2 =>
                simp only [hb2, Option.bind_some, R.run_ret, Option.some.injEq] at hr
                subst hr
                obtain ⟨r, b', cap', hv2, rfl, p1, p2, p3, p4, p5, p6, p7, p8⟩ := hown.fresh_inv
                rw [hv] at hv2
                simp only [Value.slice.injEq] at hv2
                obtain ⟨rfl, _, rfl⟩ := hv2
                obtain ⟨K, hK⟩ := ih vs Ls bs Lbs k ws2 _ _ hb2 hs2 hb (fun q hq => hrok q (by simp only [List.flatten_cons, List.mem_append]; exact .inr hq)) hT' hM' hA'
                have hbl : cap ≠ 0 → r.bl = (θ d).bl ∧ r.off = (θ d).off := by
                  intro hc
                  have := (hbb hc).symm.trans (p6 hc)
                  simp only [Option.some.injEq, Addr.mk.injEq] at this
                  exact ⟨this.1.symm, this.2.1.symm⟩
                have honly : ∀ b k, (θ d).Has b k → Inside T b k → (⟨(θ d).bl, (θ d).off, cap * o.e, o.e, o.xs.length⟩ : Reg).Has b k := by
                  intro b k g1 g2
                  refine only h hA hs2.went (L' := []) (M' := []) .nil ⟨o, by rw [hd]⟩ ?_ g1 (by rw [hT', List.append_assoc] at g2; simpa using g2)
                  rw [hM', hmv] at hM
                  simpa using hM
                have hd' : (σ.getO d).st = st := by rw [hd]
                let new : New := ⟨d, st, θ d, ⟨e, xs, false, o.cap⟩⟩
                refine ⟨(new, r) :: K, ?_, ?_, ?_, ?_⟩
                · exact GW.back new hz hK.ws
                · simp only [List.map_cons, hK.regs, List.flatten_cons, List.singleton_append]
                · intro y hy
                  simp only [List.mem_cons] at hy
                  rcases hy with rfl | hy
                  · refine .inr ⟨hd'.symm, ⟨o, by simp only [new]; rw [hd]⟩, rfl, ?_, hz, fun b k g1 g2 => ?_⟩
                    · rw [hMe]; simp [hmv, new]
                    · obtain ⟨q1, q2, q3⟩ := honly b k g1 g2
                      simp only at q1 q2 q3
                      have hc0 : cap ≠ 0 := fun h0 => by subst h0; simp at q3; omega
                      obtain ⟨b1, b2⟩ := hbl hc0
                      exact ⟨by rw [b1]; exact q1, by rw [b2]; exact q2, by rw [b2, p4, ← he]; exact q3⟩
                  · exact hK.kind y hy
                · intro V' hV hl y hy
                  simp only [List.mem_cons] at hy
                  rcases hy with rfl | hy
                  · exact came_whole h hd hvar hz rfl hcap honly hw hnew hbl p4 (hrok r (by simp)) he hlen p5 p7 p8
                  · exact hK.obj V' hV (fun z hz => hl z (by simp only [List.mem_cons]; exact .inr hz)) y hy
            · simp [R.run_fail] at hr
        · rename_i heq; cases heq
        · simp [R.run_fail] at hr
end
end Go.Vm
/- A call. -/
namespace Go.Vm

inductive ArgsOK (φ : Phi) (μ : Mem) (w : World) : List AV → List Value → List (List Reg) → Prop
  | nil : ArgsOK φ μ w [] [] []
  | cons {x : AV} {v : Value} {L : List Reg} {xs : List AV} {vs : List Value} {Ls : List (List Reg)} : Own φ μ w x v L → ArgsOK φ μ w xs vs Ls → ArgsOK φ μ w (x :: xs) (v :: vs) (L :: Ls)

/-- What a call leaves. -/
def Left (φ : Phi) (μ : Mem) (w : World) (T : List Reg) (vals : List Value) (r : Res) (v : Value) (w' : World) : Prop :=
  ∃ (μ' : Mem) (Lr : List Reg) (Lbs : List (List Reg)), μ.Le μ' ∧ (∀ b k v, μ' b k = some v → w'.cell? ⟨b, k, none⟩ = some v) ∧
    (∀ b k v, μ' b k = some v → μ b k = some v ∨ w.heap.size ≤ b ∨ Inside T b k) ∧ Framed w (Inside T) w' ∧ Own φ μ' w' r.val v Lr ∧ BacksOK φ μ' w' vals r.back Lbs ∧
    (Lr ++ Lbs.flatten).Pairwise Reg.Apart ∧ ∀ q ∈ Lr ++ Lbs.flatten, RegOK μ' w' q ∧ ∀ b k, q.Has b k → w.heap.size ≤ b ∨ Inside T b k

def CallOK (P : Program) (φ : Phi) (g : Nat) (args : List AV) (r : Res) : Prop :=
  ∀ (f : FuncId) (vals : List Value) (w : World) (μ : Mem) (Ls : List (List Reg)), φ f = some g → ArgsOK φ μ w args vals Ls → Ls.flatten.Pairwise Reg.Apart → (∀ q ∈ Ls.flatten, RegOK μ w q) →
    (∀ b k v, μ b k = some v → w.cell? ⟨b, k, none⟩ = some v) →
    Calls P f vals.toArray w fun
      | .returned v, w' => Left φ μ w Ls.flatten vals r v w'
      | .outgrown, _ => False
      | .panicked _, _ => False

section
variable {φ : Phi} {C : Fr} {θ : Slot → Reg} {μ μ' : Mem} {σ : State} {a : Act} {w w' : World}

theorem flatL_get : ∀ {xs : List AV}, AV.flat.flatL xs = true → ∀ (j : Nat) (x : AV), xs[j]? = some x → x.flat = true
  | [], _, j, x, h => by simp at h
  | y :: ys, hf, j, x, h => by
    simp only [AV.flat.flatL, Bool.and_eq_true] at hf
    cases j with
    | zero => simp at h; subst h; exact hf.1
    | succ j => exact flatL_get hf.2 j x (by simpa using h)

theorem flat_cells {x : AV} (h : x.flat = true) (j : Nat) (c : AV) (hc : x.cells[j]? = some c) : c.flat = true := by
  rcases x.agg_or with ⟨cs, rfl⟩ | ha
  · simp only [AV.flat] at h
    exact flatL_get h j c hc
  · rw [AV.cells_one ha] at hc
    cases j with
    | zero => simp at hc; subst hc; exact h
    | succ j => simp at hc

theorem RV.flat {a : AV} {v : Value} (h : RV φ μ' a v) : a.flat = true → RV φ μ a v := by
  induction h with
  | anyc v h => intro hf; simp [AV.flat] at hf
  | int k n => intro _; exact .int k n
  | bool b => intro _; exact .bool b
  | str s => intro _; exact .str s
  | nilp => intro _; exact .nilp
  | nil => intro _; exact .nil
  | emp a c => intro hf; simp [AV.flat] at hf
  | slE e b c h => intro _; exact .slE e b c h
  | sl e xs bl off cap f h1 h2 h3 _ ih =>
    intro hf
    simp only [AV.flat, List.isEmpty_iff] at hf
    subst hf
    exact .slE _ _ _ (by simp)
  | agg cs vs h1 _ ih => intro hf; simp only [AV.flat] at hf; exact .agg cs vs h1 fun j c v hc hv => ih j c v hc hv (flatL_get hf j c hc)
  | ro cs bl off f h1 _ ih => intro hf; simp [AV.flat] at hf
  | fn g a c f va vc h1 h2 h3 _ _ i1 i2 => intro hf; simp [AV.flat] at hf

theorem Own.flat {a : AV} {v : Value} {L : List Reg} (h : Own φ μ' w a v L) : a.flat = true → Own φ μ w a v L := by
  induction h with
  | val h => intro hf; exact .val (h.flat hf)
  | agg cs vs L h1 _ ih => intro hf; simp only [AV.flat] at hf; exact .agg cs vs L h1 fun j c v hc hv => ih j c v hc hv (flatL_get hf j c hc)
  | tuple cs vs L h1 _ ih => intro hf; simp only [AV.flat] at hf; exact .tuple cs vs L h1 fun j c v hc hv => ih j c v hc hv (flatL_get hf j c hc)
  | fresh e xs r b cap h1 h2 h3 h4 h5 h6 h7 h8 =>
    intro hf
    simp only [AV.flat] at hf
    refine .fresh e xs r b cap h1 h2 h3 h4 h5 h6 h7 fun i j x c hx hc => ?_
    obtain ⟨v, g1, g2⟩ := h8 i j x c hx hc
    exact ⟨v, g1, g2.flat (flat_cells (flatL_get hf i x hx) j c hc)⟩
  | inout cs r L f h1 h2 h3 h4 h5 _ ih =>
    intro hf
    simp only [AV.flat] at hf
    exact .inout cs r L f h1 h2 h3 h4 h5 fun j c hc => ih j c hc (flatL_get hf j c hc)

theorem BacksOK.flat {vs : List Value} {bs : List (Option AV)} {Ls : List (List Reg)} (h : BacksOK φ μ' w vs bs Ls) : flatBacks bs = true → BacksOK φ μ w vs bs Ls := by
  induction h with
  | nil => intro _; exact .nil
  | none _ ih => intro hf; exact .none (ih hf)
  | some h _ ih =>
    intro hf
    simp only [flatBacks, Bool.and_eq_true] at hf
    exact .some (h.flat hf.1) (ih hf.2)

theorem Sents.args {ss : List Sent} {vs : List Value} {Ls : List (List Reg)} (h : Sents φ θ μ σ w ss vs Ls) : ArgsOK φ μ w (ss.map (·.a)) vs Ls := by
  induction h with
  | nil => exact .nil
  | cons h _ ih => exact .cons h.own ih

theorem BackOK.flags {σ' : State} {v : Value} {L : List Reg} {M : List Slot} {b : Back} (h : BackOK θ σ v L M b) (hO : ∀ d, σ'.getO d = σ.getO d) (hF : ∀ d ∈ M, σ'.getF d = σ.getF d) : BackOK θ σ' v L M b := by
  cases b with
  | no => trivial
  | part d st i off n =>
    obtain ⟨o, x, L', M', h1, h2, h3, h4, h5, h6, h7, h8, h9, h10⟩ := h
    refine ⟨o, x, L', M', by rw [hO]; exact h1, h2, h3, h4, h5, h6, h7, h8, h9.flags fun e he => ⟨hO e, hF e (by rw [h8]; simp [he])⟩, by rw [hF d (by rw [h8]; simp)]; exact h10⟩
  | whole d st =>
    obtain ⟨o, b, cap, h1, h2, h3, h4, h5, h6, h7, h8, h9⟩ := h
    exact ⟨o, b, cap, by rw [hO]; exact h1, h2, h3, h4, h5, h6, h7, h8, by rw [hF d (by rw [h8]; simp)]; exact h9⟩

theorem Sents.flags {σ' : State} {ss : List Sent} {vs : List Value} {Ls : List (List Reg)} (h : Sents φ θ μ σ w ss vs Ls) (hO : ∀ d, σ'.getO d = σ.getO d) :
    (∀ d ∈ ss.flatMap (·.moved), σ'.getF d = σ.getF d) → Sents φ θ μ σ' w ss vs Ls := by
  induction h with
  | nil => intro _; exact .nil
  | cons h _ ih =>
    intro hF
    refine .cons ⟨h.own, h.went.flags fun d hd => ⟨hO d, hF d (by simp [hd])⟩, h.back.flags hO fun d hd => hF d (by simp [hd])⟩ (ih fun d hd => hF d (by
      simp only [List.flatMap_cons, List.mem_append]; exact .inr hd))

theorem gone_O (σ0 : State) : ∀ (M : List Slot) (σ : State) (d : Slot), (σ.applyAll (M.map fun d => W.o d ⟨(σ0.getO d).st, none⟩)).getO d = if d ∈ M then ⟨(σ0.getO d).st, none⟩ else σ.getO d
  | [], σ, d => by simp [applyAll_nil]
  | e :: M, σ, d => by
    rw [List.map_cons, applyAll_cons, gone_O σ0 M]
    by_cases h : d ∈ M
    · simp [h]
    · rw [if_neg h, getO_o]
      by_cases he : d = e
      · subst he; simp
      · simp [h, he]
theorem gone_F (σ0 : State) : ∀ (M : List Slot) (σ : State) (d : Slot), (σ.applyAll (M.map fun d => W.o d ⟨(σ0.getO d).st, none⟩)).getF d = σ.getF d
  | [], σ, d => rfl
  | e :: M, σ, d => by rw [List.map_cons, applyAll_cons, gone_F σ0 M]; rfl
theorem gone_T (σ0 : State) : ∀ (M : List Slot) (σ : State) (n : Nat), (σ.applyAll (M.map fun d => W.o d ⟨(σ0.getO d).st, none⟩)).getT n = σ.getT n
  | [], σ, d => rfl
  | e :: M, σ, d => by rw [List.map_cons, applyAll_cons, gone_T σ0 M]; rfl

theorem mapR_getO (σ : State) : ∀ (M : List Slot), (mapR (fun d => R.getO d .ret) M).run σ = some (M.map σ.getO)
  | [] => rfl
  | d :: M => by simp [mapR, R.run_bind, run_getO, R.run_ret, mapR_getO σ M]

/-- The state after the call, seen from one before it. -/
theorem after_call (h : Inv φ C θ μ σ a w) {σ0 : State} (hO : ∀ d, σ0.getO d = σ.getO d) {ss : List Sent} {vs : List Value} {Ls : List (List Reg)} {μ1 : Mem} (hs : Sents φ θ μ1 σ w ss vs Ls)
    (hM : (ss.flatMap (·.moved)).Nodup) (hle : μ.Le μ') (hsub : ∀ b k v, μ' b k = some v → w'.cell? ⟨b, k, none⟩ = some v)
    (hnew : ∀ b k v, μ' b k = some v → μ b k = some v ∨ w.heap.size ≤ b ∨ Inside Ls.flatten b k) (hw : Framed w (Inside Ls.flatten) w') {r : Res} {v : Value} {Lr : List Reg} {Lbs : List (List Reg)}
    (hown : Own φ μ' w' r.val v Lr) (hbk : BacksOK φ μ' w' vs r.back Lbs) (hap : (Lr ++ Lbs.flatten).Pairwise Reg.Apart)
    (hok : ∀ q ∈ Lr ++ Lbs.flatten, RegOK μ' w' q ∧ ∀ b k, q.Has b k → w.heap.size ≤ b ∨ Inside Ls.flatten b k)
    {t : Nat} {y : AV} {ws1 ws2 : List W} {k : Nat} (himp : (impR t depth 0 r.val).run σ0 = some (y, ws1, k)) (hbr : (backR t k ss r.back).run σ0 = some ws2) (hnd : nodup (madeAt (ws1 ++ ws2)) = true) :
    ∃ θ', Inv φ C θ' μ' (σ.applyAll ((ss.flatMap (·.moved)).map (fun d => W.o d ⟨(σ0.getO d).st, none⟩) ++ (ws1 ++ ws2))) a w' ∧
      Rep φ μ' (viewOf (σ.applyAll ((ss.flatMap (·.moved)).map (fun d => W.o d ⟨(σ0.getO d).st, none⟩) ++ (ws1 ++ ws2))) θ') y v := by
  have hT := hs.went
  obtain ⟨N, n1, n2, n3, _, n4⟩ := imp_spec depth 0 _ _ _ _ _ _ himp hown (fun q hq => (hok q (List.mem_append_left _ hq)).1)
  simp only [Nat.add_zero] at n2 n4
  have hcame : Came φ θ μ' σ w' Ls.flatten (ss.flatMap (·.moved)) ws1 Lr ((newsOf σ0 (64 * t) N).map fun p => (p, p.r)) := by
    rw [n2]; exact Came.made hO n1 fun V hV p hp => (n4 V hV).2 p hp
  obtain ⟨K, hK⟩ := backs h hle hO hM (t := t) hw hnew ss vs Ls r.back Lbs k ws2 [] [] hbr hs hbk (fun q hq => (hok q (List.mem_append_right _ hq)).1) (by simp) (by simp) .nil
  have hall := hcame.append hK
  generalize hKK : ((newsOf σ0 (64 * t) N).map fun p => (p, p.r)) ++ K = KK at hall
  have hdn : ((KK.map Prod.fst).map New.d).Nodup := by
    rw [← hall.ws.madeAt]; exact nodup_spec hnd
  generalize hσ' : σ.applyAll ((ss.flatMap (·.moved)).map (fun d => W.o d ⟨(σ0.getO d).st, none⟩)) = σg
  have gO : ∀ d, σg.getO d = if d ∈ ss.flatMap (·.moved) then ⟨(σ.getO d).st, none⟩ else σ.getO d := by
    intro d; rw [← hσ', gone_O σ0, hO]
  have gF : ∀ d, σg.getF d = σ.getF d := by intro d; rw [← hσ', gone_F σ0]
  have gT : ∀ n, σg.getT n = σ.getT n := by intro n; rw [← hσ', gone_T σ0]
  have gl : σg.tm.length = σ.tm.length := by rw [← hσ', len_applyAll]
  rw [applyAll_append, hσ']
  have hz : ∀ d, σ.getF d = false → σg.getF d = false := fun d hd => by rw [gF]; exact hd
  have hpair : (KK.map fun x => x.1.r).Pairwise Reg.Apart := by
    rw [List.pairwise_map]
    have h1 : KK.Pairwise fun x y => x.2.Apart y.2 := by
      have := hap
      rw [← hall.regs, List.pairwise_map] at this
      exact this
    have h2 : KK.Pairwise fun x y => x.1.d ≠ y.1.d := by
      have := hdn
      rw [List.map_map, List.Nodup, List.pairwise_map] at this
      exact this
    refine (h1.and h2).imp_of_mem fun {x y} hx hy hxy => ?_
    obtain ⟨hxy, hne⟩ := hxy
    have inz : ∀ z ∈ KK, ∀ b k, z.2.Has b k → w.heap.size ≤ b ∨ Inside Ls.flatten b k := by
      intro z hz b k hb
      refine (hok z.2 ?_).2 b k hb
      rw [← hall.regs]; exact List.mem_map_of_mem hz
    have old : ∀ d o, (σ.getO d).obj = some o → ∀ b k, (θ d).Has b k → ¬ w.heap.size ≤ b := fun d o ho b k hb => by
      have := (h.obj d o ho).lt hb; omega
    rcases hall.kind x hx with ⟨_, e1⟩ | ⟨_, ⟨o1, ho1⟩, e1, _, _, s1⟩ <;> rcases hall.kind y hy with ⟨_, e2⟩ | ⟨_, ⟨o2, ho2⟩, e2, _, _, s2⟩
    · rw [e1, e2]; exact hxy
    · rw [e1, e2]
      intro b k g1 g2
      rcases inz x hx b k g1 with g3 | g3
      · exact old _ _ ho2 b k g2 g3
      · exact hxy b k g1 (s2 b k g2 g3)
    · rw [e1, e2]
      intro b k g1 g2
      rcases inz y hy b k g2 with g3 | g3
      · exact old _ _ ho1 b k g1 g3
      · exact hxy b k (s1 b k g1 g3) g2
    · rw [e1, e2]
      exact h.apart _ _ o1 o2 hne ho1 ho2
  obtain ⟨r1, r2, r3⟩ := h.remake (σ' := σg.applyAll (ws1 ++ ws2)) (μ' := μ') (w' := w') (ss.flatMap (·.moved)) (KK.map Prod.fst) hdn (fun d hd => (hT.slots d hd).1)
    (fun p hp => by
      obtain ⟨x, hx, rfl⟩ := List.mem_map.1 hp
      rcases hall.kind x hx with ⟨e1, _⟩ | ⟨e1, e2, e3, _⟩
      · exact .inl e1
      · exact .inr ⟨e1, e2, e3⟩)
    (fun n => by rw [hall.ws.T, gT]) (by rw [len_applyAll, gl])
    (fun p hp => (hall.ws.at_ σg hdn hz p hp).1) (fun p hp => (hall.ws.at_ σg hdn hz p hp).2)
    (fun d hd => by rw [(hall.ws.out σg d hd).1, gO]) (fun d hd => by rw [(hall.ws.out σg d hd).2, gF])
    hle hsub (fun b k v hm => by
      rcases hnew b k v hm with h1 | h1 | h1
      · exact .inl h1
      · exact .inr (.inr h1)
      · exact .inr (.inl (frame_of hT h1)))
    ⟨hw.os, hw.tape, hw.output, hw.size, fun b hb => (hw.same b hb).imp id fun ⟨c, c', e, fz, h1, h2, h3, h4⟩ => ⟨c, c', e, fz, h1, h2, h3, fun o ho => h4 o fun hin => ho (frame_of hT hin)⟩⟩
    (by rw [List.map_map]; exact hpair)
    (fun p hp b k hb => by
      obtain ⟨x, hx, rfl⟩ := List.mem_map.1 hp
      rcases hall.kind x hx with ⟨_, e1⟩ | ⟨_, _, e1, e2, _⟩
      · rw [e1] at hb
        rcases (hok x.2 (by rw [← hall.regs]; exact List.mem_map_of_mem hx)).2 b k hb with h1 | h1
        · exact .inr h1
        · exact .inl (frame_of hT h1)
      · rw [e1] at hb; exact .inl ⟨_, e2, hb⟩)
    (fun V' hV hl p hp => by
      obtain ⟨x, hx, rfl⟩ := List.mem_map.1 hp
      exact hall.obj V' hV (fun z hz => hl z.1 (List.mem_map_of_mem hz)) x hx)
  refine ⟨_, r1, ?_⟩
  refine (n4 _ (lies_of fun p hp => ?_)).1
  refine r3 p (List.mem_map.2 ⟨(p, p.r), ?_, rfl⟩)
  rw [← hKK]
  exact List.mem_append_left _ (List.mem_map_of_mem hp)
end
end Go.Vm
/- A call, as the machine makes it. -/
namespace Go.Vm

section
variable {φ : Phi} {C : Fr} {θ : Slot → Reg} {μ : Mem} {σ : State} {a : Act} {w : World}

theorem callR_spec (h : Inv φ C θ μ σ a w) {P : Program} {orc : Oracle} {g t : Nat} {f : FuncId} (hg : φ f = some g) (horc : ∀ (args : List AV) (r : Res), orc (.call g args) = some (.res r) → CallOK P φ g args r)
    {ss : List Sent} {vs : List Value} (hs : ∀ μ', μ.Le μ' → (∀ d ∈ ss.flatMap (·.read), Shut θ μ' σ w d) → ∃ Ls, Sents φ θ μ' σ w ss vs Ls) {y : AV} {ws : List W} (hr : (callR orc t g ss).run σ = some (y, ws)) :
    Calls P f vs.toArray w fun
      | .returned v, w' => ∃ θ' μ', Inv φ C θ' μ' (σ.applyAll ws) a w' ∧ Rep φ μ' (viewOf (σ.applyAll ws) θ') y v
      | .outgrown, _ => False
      | .panicked _, _ => False := by
  simp only [callR] at hr
  split at hr
  · rename_i hc
    simp only [Bool.and_eq_true] at hc
    obtain ⟨hnd, hrd⟩ := hc
    have hM := nodup_spec hnd
    have hdis : ∀ d ∈ ss.flatMap (·.moved), d ∉ ss.flatMap (·.read) := by
      intro d hd hd'
      rw [List.all_eq_true] at hrd
      have := hrd d hd'
      simp only [Bool.not_eq_true'] at this
      rw [List.contains_iff_mem.2 hd] at this
      cases this
    split at hr
    · rename_i r ho
      simp only [R.run_bind, mapR_getO, Option.bind_some] at hr
      cases hi : (impR t depth 0 r.val).run σ with
      | none => simp [hi] at hr
      | some q =>
        obtain ⟨y', ws1, k⟩ := q
        simp only [hi, Option.bind_some] at hr
        cases hb : (backR t k ss r.back).run σ with
        | none => simp [hb] at hr
        | some ws2 =>
          simp only [hb, Option.bind_some] at hr
          split at hr
          · rename_i hmd
            simp only [R.run_ret, Option.some.injEq, Prod.mk.injEq] at hr
            obtain ⟨rfl, hws⟩ := hr
            have hgone : (((ss.flatMap (·.moved)).zip ((ss.flatMap (·.moved)).map σ.getO)).map fun x => W.o x.1 ⟨x.2.st, none⟩) = (ss.flatMap (·.moved)).map fun d => W.o d ⟨(σ.getO d).st, none⟩ := by
              generalize ss.flatMap (·.moved) = M
              induction M with
              | nil => rfl
              | cons d M ih => simp [ih]
            obtain ⟨μ1, f1, f2, f3, f4⟩ := h.freezeAll (ss.flatMap (·.read))
            obtain ⟨Ls, hsents⟩ := hs μ1 f1 f3
            generalize hσ1 : σ.applyAll (setFs (ss.flatMap (·.read))) = σ1 at f2
            have hO1 : ∀ d, σ1.getO d = σ.getO d := by intro d; rw [← hσ1, setFs_O]
            have hF1 : ∀ d, σ1.getF d = ((ss.flatMap (·.read)).contains d || σ.getF d) := by intro d; rw [← hσ1, setFs_F]
            have hT1 : ∀ n, σ1.getT n = σ.getT n := by intro d; rw [← hσ1, setFs_T]
            have hl1 : σ1.tm.length = σ.tm.length := by rw [← hσ1, len_applyAll]
            have hsents1 : Sents φ θ μ1 σ1 w ss vs Ls := hsents.flags hO1 fun d hd => by
              rw [hF1]
              have : (ss.flatMap (·.read)).contains d = false := by
                cases hcc : (ss.flatMap (·.read)).contains d with
                | false => rfl
                | true => exact absurd (List.contains_iff_mem.1 hcc) (hdis d hd)
              rw [this, Bool.false_or]
            have hreg : ∀ q ∈ Ls.flatten, RegOK μ1 w q := by
              intro q hq
              rcases hsents1.went.mem q hq with h0 | ⟨d, hd, ⟨o, ho⟩, hz, hsub⟩
              · exact ⟨fun k hk => by omega, fun k hk => by omega, fun k hk => by omega⟩
              · exact f2.regOK ho hz hsub
            have hcall := horc (ss.map (·.a)) r ho f vs w μ1 Ls hg hsents.args (hsents1.went.apart f2 hM) hreg f2.sub
            refine hcall.mono fun e w' he => ?_
            cases e with
            | outgrown => exact he
            | panicked c => exact he
            | returned v =>
              obtain ⟨μ2, Lr, Lbs, l1, l2, l3, l4, l5, l6, l7, l8⟩ := he
              by_cases hflat : (r.val.flat && flatBacks r.back) = true
              · -- nothing that was read goes on
                have hfs : ws = (ss.flatMap (·.moved)).map (fun d => W.o d ⟨(σ.getO d).st, none⟩) ++ (ws1 ++ ws2) := by
                  rw [← hws, hgone]
                  simp [hflat]
                rw [hfs]
                simp only [Bool.and_eq_true] at hflat
                obtain ⟨θ', g1, g2⟩ := after_call h (fun _ => rfl) hsents hM (Mem.Le.refl μ) (fun b k v hm => l2 b k v (l1 _ _ _ (f1 _ _ _ hm))) (fun b k v hm => .inl hm) l4 (l5.flat hflat.1) (l6.flat hflat.2) l7
                  (fun q hq => ⟨⟨(l8 q hq).1.there, (l8 q hq).1.soft, fun k hk => by
                    cases hm : μ q.bl (q.off + k) with
                    | none => rfl
                    | some v => have := l1 _ _ _ (f1 _ _ _ hm); rw [(l8 q hq).1.free k hk] at this; cases this⟩, (l8 q hq).2⟩) hi hb hmd
                exact ⟨θ', μ, g1, g2⟩
              · obtain ⟨θ', g1, g2⟩ := after_call f2 (fun d => (hO1 d).symm) hsents1 hM l1 l2 l3 l4 l5 l6 l7 l8 hi hb hmd
                generalize hσ2 : σ1.applyAll ((ss.flatMap (·.moved)).map (fun d => W.o d ⟨(σ.getO d).st, none⟩) ++ (ws1 ++ ws2)) = σ2 at g1 g2
                obtain ⟨μ3, k1, k2, _, _⟩ := g1.freezeAll (ss.flatMap (·.read))
                have hlike : (σ2.applyAll (setFs (ss.flatMap (·.read)))).Like (σ.applyAll ws) := by
                  have hwse : (σ.applyAll ws).Like ((σ.applyAll ((ss.flatMap (·.moved)).map (fun d => W.o d ⟨(σ.getO d).st, none⟩) ++ (ws1 ++ ws2))).applyAll (setFs (ss.flatMap (·.read)))) := by
                    rw [← hws, hgone]
                    by_cases hemp : (ss.flatMap (·.read)).isEmpty = true
                    · have : ss.flatMap (·.read) = [] := by simpa using hemp
                      rw [this]
                      simp [setFs, applyAll_nil, List.append_assoc]
                      exact State.Like.refl _
                    · simp only [hemp, hflat, Bool.or_self, Bool.false_eq_true, if_false, setFs, applyAll_append, List.append_assoc]
                      exact State.Like.refl _
                  refine State.Like.trans ?_ hwse.symm
                  rw [← hσ2]
                  refine State.Like.of (by simp [len_applyAll, hl1]) fun key => ?_
                  cases key with
                  | t n => exact applyAll_same _ (by simp [len_applyAll, hl1]) (applyAll_same _ hl1.symm (show σ.getT n = σ1.getT n from (hT1 n).symm))
                  | o d => exact applyAll_same _ (by simp [len_applyAll, hl1]) (applyAll_same _ hl1.symm (show σ.getO d = σ1.getO d from (hO1 d).symm))
                  | f d =>
                    by_cases hd : d ∈ ss.flatMap (·.read)
                    · refine applyAll_own _ (by simp [len_applyAll, hl1]) ?_
                      simp only [setFs, List.map_map, List.mem_map]
                      exact ⟨d, hd, rfl⟩
                    · refine applyAll_same _ (by simp [len_applyAll, hl1]) (applyAll_same _ hl1.symm ?_)
                      show σ.getF d = σ1.getF d
                      rw [hF1]
                      have : (ss.flatMap (·.read)).contains d = false := by
                        cases hcc : (ss.flatMap (·.read)).contains d with
                        | false => rfl
                        | true => exact absurd (List.contains_iff_mem.1 hcc) hd
                      rw [this, Bool.false_or]
                refine ⟨θ', μ3, k2.like hlike, ?_⟩
                have hv : viewOf (σ.applyAll ws) θ' = viewOf σ2 θ' := by
                  rw [hlike.view]
                  funext d
                  simp only [viewOf, setFs_O]
                rw [hv]
                exact g2.mono k1 (VLe.refl _)
          · simp [R.run_fail] at hr
    · simp [R.run_fail] at hr
  · simp [R.run_fail] at hr

/-- The arguments of a call. -/
theorem Inv.sends (h : Inv φ C θ μ σ a w) {μ' : Mem} (hm : μ.Le μ') : ∀ {cs : List CArg} {ss : List Sent} {vs : List Value}, (mapR sendR cs).run σ = some ss → vs.length = cs.length →
    (∀ (j : Nat) (c : CArg) (v : Value), cs[j]? = some c → vs[j]? = some v → Rep φ μ (viewOf σ θ) (c.x.val σ) v) → (∀ d ∈ ss.flatMap (·.read), Shut θ μ' σ w d) → ∃ Ls, Sents φ θ μ' σ w ss vs Ls
  | [], ss, vs, hr, hl, _, _ => by
    simp only [mapR, R.run_ret, Option.some.injEq] at hr
    subst hr
    have : vs = [] := List.length_eq_zero_iff.1 hl
    subst this
    exact ⟨[], .nil⟩
  | c :: cs, ss, vs, hr, hl, hv, hsh => by
    simp only [mapR, R.run_bind] at hr
    cases h1 : (sendR c).run σ with
    | none => simp [h1] at hr
    | some s =>
      cases h2 : (mapR sendR cs).run σ with
      | none => simp [h1, h2] at hr
      | some ss' =>
        simp only [h1, h2, Option.bind_some, R.run_ret, Option.some.injEq] at hr
        subst hr
        cases vs with
        | nil => simp at hl
        | cons v vs =>
          obtain ⟨L, hL⟩ := h.send hm h1 (hv 0 c v rfl rfl) (fun e he => hsh e (by simp [he]))
          obtain ⟨Ls, hLs⟩ := h.sends hm h2 (by simpa using hl) (fun j c v hc hv' => hv (j + 1) c v (by simpa using hc) (by simpa using hv')) (fun d hd => hsh d (by
            simp only [List.flatMap_cons, List.mem_append]; exact .inr hd))
          exact ⟨_, .cons hL hLs⟩

theorem Inv.sendCs (h : Inv φ C θ μ σ a w) {μ' : Mem} (hm : μ.Le μ') : ∀ {xs : List AV} {ss : List Sent} {vs : List Value}, (mapR sendCap xs).run σ = some ss → vs.length = xs.length →
    (∀ (j : Nat) (x : AV) (v : Value), xs[j]? = some x → vs[j]? = some v → Rep φ μ (viewOf σ θ) x v) → (∀ d ∈ ss.flatMap (·.read), Shut θ μ' σ w d) → ∃ Ls, Sents φ θ μ' σ w ss vs Ls
  | [], ss, vs, hr, hl, _, _ => by
    simp only [mapR, R.run_ret, Option.some.injEq] at hr
    subst hr
    have : vs = [] := List.length_eq_zero_iff.1 hl
    subst this
    exact ⟨[], .nil⟩
  | c :: cs, ss, vs, hr, hl, hv, hsh => by
    simp only [mapR, R.run_bind] at hr
    cases h1 : (sendCap c).run σ with
    | none => simp [h1] at hr
    | some s =>
      cases h2 : (mapR sendCap cs).run σ with
      | none => simp [h1, h2] at hr
      | some ss' =>
        simp only [h1, h2, Option.bind_some, R.run_ret, Option.some.injEq] at hr
        subst hr
        cases vs with
        | nil => simp at hl
        | cons v vs =>
          obtain ⟨L, hL⟩ := h.sendC hm h1 (hv 0 c v rfl rfl) (fun e he => hsh e (by simp [he]))
          obtain ⟨Ls, hLs⟩ := h.sendCs hm h2 (by simpa using hl) (fun j c v hc hv' => hv (j + 1) c v (by simpa using hc) (by simpa using hv')) (fun d hd => hsh d (by
            simp only [List.flatMap_cons, List.mem_append]; exact .inr hd))
          exact ⟨_, .cons hL hLs⟩

theorem Sents.append {μ' : Mem} {s1 s2 : List Sent} {v1 v2 : List Value} {L1 L2 : List (List Reg)} (h : Sents φ θ μ' σ w s1 v1 L1) (k : Sents φ θ μ' σ w s2 v2 L2) : Sents φ θ μ' σ w (s1 ++ s2) (v1 ++ v2) (L1 ++ L2) := by
  induction h with
  | nil => exact k
  | cons h _ ih => exact .cons h ih
end
end Go.Vm
/- Where an activation begins. -/
namespace Go.Vm

section
variable {φ : Phi} {μ : Mem} {w : World}

theorem obsOf_append : ∀ (a b : List W), obsOf (a ++ b) = obsOf a ++ obsOf b
  | [], _ => rfl
  | .o d s :: r, b => by simp [obsOf, obsOf_append r b]
  | .t _ _ :: r, b => by simp [obsOf, obsOf_append r b]
  | .f _ _ :: r, b => by simp [obsOf, obsOf_append r b]

theorem obsOf_mk : ∀ (N : NL) (d : Slot), obsOf (mkWs ⟨[], [], []⟩ d N) = (newsOf ⟨[], [], []⟩ d N).map fun p => (p.d, ⟨p.st, some p.o⟩)
  | [], _ => rfl
  | some p :: N, d => by simp [mkWs, newsOf, obsOf, obsOf_mk N]
  | none :: N, d => by simp [mkWs, newsOf, obsOf_mk N]

theorem newsOf_nodup (σ : State) : ∀ (N : NL) (d : Nat), ((newsOf σ d N).map New.d).Nodup
  | [], _ => List.nodup_nil
  | none :: N, d => newsOf_nodup σ N (d + 1)
  | some p :: N, d => by
    simp only [newsOf, List.map_cons, List.nodup_cons]
    refine ⟨fun h => ?_, newsOf_nodup σ N (d + 1)⟩
    obtain ⟨q, hq, he⟩ := List.mem_map.1 h
    obtain ⟨_, _, h3, _⟩ := newsOf_mem σ N (d + 1) q hq
    have : (d + 1 : Nat) ≤ d := by rw [← he]; rw [he] at h3 ⊢; exact h3
    omega

theorem look_news : ∀ {G : List New}, (G.map New.d).Nodup → (∀ p ∈ G, look p.d (G.map fun p => (p.d, (⟨p.st, some p.o⟩ : SlotSt))) = ⟨p.st, some p.o⟩) ∧ ∀ d, d ∉ G.map New.d → look d (G.map fun p => (p.d, (⟨p.st, some p.o⟩ : SlotSt))) = ⟨0, none⟩
  | [], _ => ⟨by simp, fun _ _ => rfl⟩
  | p :: G, hn => by
    simp only [List.map_cons, List.nodup_cons] at hn
    obtain ⟨h1, h2⟩ := look_news hn.2
    refine ⟨fun q hq => ?_, fun d hd => ?_⟩
    · simp only [List.map_cons, look]
      simp only [List.mem_cons] at hq
      rcases hq with rfl | hq
      · simp
      · have : (p.d == q.d) = false := by
          simp only [beq_eq_false_iff_ne, ne_eq]
          intro e
          exact hn.1 (by rw [e]; exact List.mem_map_of_mem hq)
        rw [this]
        exact h1 q hq
    · simp only [List.map_cons, List.mem_cons, not_or] at hd
      simp only [List.map_cons, look]
      have : (p.d == d) = false := by
        simp only [beq_eq_false_iff_ne, ne_eq]
        exact fun e => hd.1 e.symm
      rw [this]
      exact h2 d hd.2

theorem entryL_spec : ∀ {args : List AV} {vals : List Value} {Ls : List (List Reg)} (t : Nat) {xs : List AV} {ob : List (Slot × SlotSt)}, ArgsOK φ μ w args vals Ls → (∀ q ∈ Ls.flatten, RegOK μ w q) → entryL t args = some (xs, ob) →
    xs.length = vals.length ∧ ∃ G : List New, (G.map New.d).Nodup ∧ (∀ p ∈ G, p.st = 1 ∧ 64 * t ≤ p.d ∧ p.d < 64 * (t + args.length)) ∧ ob = G.map (fun p => (p.d, ⟨p.st, some p.o⟩)) ∧ G.map New.r = Ls.flatten ∧
      (∀ (i : Nat) (a : AV) (r : Reg) (L : List Reg), args[i]? = some a → a.handed = true → Ls[i]? = some (r :: L) → ∃ p ∈ G, p.d = 64 * (t + i) ∧ p.r = r) ∧
      ∀ V : View, (∀ p ∈ G, V p.d = (p.st, some p.r)) → (∀ (j : Nat) (x : AV) (v : Value), xs[j]? = some x → vals[j]? = some v → Rep φ μ V x v) ∧ ∀ p ∈ G, ObjOK φ μ V w p.r false p.o
  | [], vals, Ls, t, xs, ob, ha, _, h => by
    cases ha
    simp only [entryL, Option.some.injEq, Prod.mk.injEq] at h
    obtain ⟨rfl, rfl⟩ := h
    exact ⟨rfl, [], List.nodup_nil, by simp, rfl, rfl, by simp, fun V _ => ⟨by simp, by simp⟩⟩
  | a :: as, _, _, t, xs, ob, ha, hok, h => by
    cases ha with
    | @cons _ v L _ vals Ls h1 h2 =>
      simp only [entryL] at h
      cases hi : (impR t depth 0 a).run ⟨[], [], []⟩ with
      | none => simp [hi] at h
      | some q =>
        obtain ⟨y, ws, k⟩ := q
        simp only [hi] at h
        split at h
        · cases h
        · rename_i hk
          cases hr : entryL (t + 1) as with
          | none => simp [hr] at h
          | some r =>
            obtain ⟨ys, ob'⟩ := r
            simp only [hr, Option.some.injEq, Prod.mk.injEq] at h
            obtain ⟨rfl, rfl⟩ := h
            obtain ⟨g1, G, g2, g3, g4, g5, g6, g7⟩ := entryL_spec (t + 1) h2 (fun q hq => hok q (by simp only [List.flatten_cons, List.mem_append]; exact .inr hq)) hr
            obtain ⟨N, n1, n2, n3, n5, n4⟩ := imp_spec depth 0 _ _ _ _ _ _ hi h1 (fun q hq => hok q (by simp only [List.flatten_cons, List.mem_append]; exact .inl hq))
            simp only [Nat.add_zero] at n2 n4
            have hmem := newsOf_mem ⟨[], [], []⟩ N (64 * t)
            refine ⟨by simp [g1], newsOf ⟨[], [], []⟩ (64 * t) N ++ G, ?_, ?_, ?_, ?_, ?_, ?_⟩
            · rw [List.map_append, List.nodup_append]
              refine ⟨newsOf_nodup _ N _, g2, fun d hd e he hde => ?_⟩
              obtain ⟨p, hp, rfl⟩ := List.mem_map.1 hd
              obtain ⟨q, hq, rfl⟩ := List.mem_map.1 he
              have h3 : (p.d : Nat) < 64 * t + N.length := (hmem p hp).2.2.2
              have h4 : 64 * (t + 1) ≤ (q.d : Nat) := (g3 q hq).2.1
              have h5 : (p.d : Nat) = q.d := hde
              omega
            · intro p hp
              rcases List.mem_append.1 hp with hp | hp
              · obtain ⟨h3, _, h4, h5⟩ := hmem p hp
                refine ⟨h3, h4, ?_⟩
                have h5' : (p.d : Nat) < 64 * t + N.length := h5
                show (p.d : Nat) < 64 * (t + (as.length + 1))
                omega
              · obtain ⟨h3, h4, h5⟩ := g3 p hp
                have h4' : 64 * (t + 1) ≤ (p.d : Nat) := h4
                have h5' : (p.d : Nat) < 64 * (t + 1 + as.length) := h5
                refine ⟨h3, ?_, ?_⟩
                · show 64 * t ≤ (p.d : Nat)
                  omega
                · show (p.d : Nat) < 64 * (t + (as.length + 1))
                  omega
            · rw [n2, obsOf_mk, g4, List.map_append]
            · rw [List.map_append, newsOf_regs, n1, g5, List.flatten_cons]
            · intro i b r L' hb hh hL
              cases i with
              | zero =>
                simp only [List.getElem?_cons_zero, Option.some.injEq] at hL hb
                subst hb
                rw [hL] at n1
                obtain ⟨p, N', hN⟩ := n5 hh
                rw [hN] at n1 ⊢
                simp only [NL.regs, List.filterMap_cons, Option.map_some, List.cons.injEq] at n1
                exact ⟨_, List.mem_append_left _ (by simp only [newsOf]; exact List.mem_cons_self), rfl, n1.1⟩
              | succ i =>
                obtain ⟨p, hp, h3, h4⟩ := g6 i b r L' (by simpa using hb) hh (by simpa using hL)
                exact ⟨p, List.mem_append_right _ hp, by rw [h3, show t + 1 + i = t + (i + 1) by omega], h4⟩
            · intro V hV
              obtain ⟨q1, q2⟩ := n4 V (lies_of fun p hp => hV p (List.mem_append_left _ hp))
              obtain ⟨r1, r2⟩ := g7 V (fun p hp => hV p (List.mem_append_right _ hp))
              refine ⟨fun j x v hx hv => ?_, fun p hp => ?_⟩
              · cases j with
                | zero => simp at hx hv; subst hx; subst hv; exact q1
                | succ j => exact r1 j x v (by simpa using hx) (by simpa using hv)
              · rcases List.mem_append.1 hp with hp | hp
                · exact q2 _ (hmem p hp).2.1
                · exact r2 p hp

theorem ArgsOK.len {args : List AV} {vals : List Value} {Ls : List (List Reg)} (h : ArgsOK φ μ w args vals Ls) : vals.length = args.length ∧ Ls.length = args.length := by
  induction h with
  | nil => exact ⟨rfl, rfl⟩
  | cons _ _ ih => exact ⟨by simp [ih.1], by simp [ih.2]⟩

theorem entry_inv {args : List AV} {vals : List Value} {Ls : List (List Reg)} {nt : Nat} {σ : State} (ha : ArgsOK φ μ w args vals Ls) (hap : Ls.flatten.Pairwise Reg.Apart) (hok : ∀ q ∈ Ls.flatten, RegOK μ w q)
    (hsub : ∀ b k v, μ b k = some v → w.cell? ⟨b, k, none⟩ = some v) (he : entry nt args = some σ) :
    ∃ gh θ, Inv φ ⟨w, μ, Inside Ls.flatten, gh⟩ θ μ σ { tmps := vals.toArray ++ Array.replicate (nt - vals.toArray.size) undef, defers := [] } w ∧
      (∀ (i : Nat) (a : AV) (r : Reg) (L : List Reg), args[i]? = some a → a.handed = true → Ls[i]? = some (r :: L) → (64 * i, r) ∈ gh) ∧ ∀ p ∈ gh, ∃ t : Nat, p.1 = 64 * t ∧ t < args.length := by
  unfold entry at he
  cases hr : entryL 0 args with
  | none => simp [hr] at he
  | some r =>
    obtain ⟨xs, ob⟩ := r
    simp only [hr, Option.some.injEq] at he
    subst he
    obtain ⟨g1, G, g2, g3, g4, g5, g6, g7⟩ := entryL_spec 0 ha hok hr
    obtain ⟨l1, l2⟩ := look_news g2
    have hreg : ∀ p ∈ G, p.r ∈ Ls.flatten := fun p hp => by rw [← g5]; exact List.mem_map_of_mem hp
    have hO : ∀ p ∈ G, (State.mk (xs ++ List.replicate (nt - args.length) .any) ob []).getO p.d = ⟨p.st, some p.o⟩ := fun p hp => by
      show look p.d ob = _
      rw [g4]; exact l1 p hp
    have hO' : ∀ d, d ∉ G.map New.d → (State.mk (xs ++ List.replicate (nt - args.length) .any) ob []).getO d = ⟨0, none⟩ := fun d hd => by
      show look d ob = _
      rw [g4]; exact l2 d hd
    have live : ∀ d o, ((State.mk (xs ++ List.replicate (nt - args.length) .any) ob []).getO d).obj = some o → ∃ p ∈ G, p.d = d ∧ p.o = o := by
      intro d o ho
      by_cases hd : d ∈ G.map New.d
      · obtain ⟨p, hp, rfl⟩ := List.mem_map.1 hd
        rw [hO p hp] at ho
        simp only [Option.some.injEq] at ho
        exact ⟨p, hp, rfl, ho⟩
      · rw [hO' d hd] at ho; cases ho
    let θ0 : Slot → Reg := fun _ => ⟨0, 0, 0, 0, 0⟩
    have hV : ∀ p ∈ G, viewOf (State.mk (xs ++ List.replicate (nt - args.length) .any) ob []) (regAt θ0 G) p.d = (p.st, some p.r) := by
      intro p hp
      simp [viewOf, hO p hp, regAt_in g2 p hp]
    obtain ⟨q1, q2⟩ := g7 _ hV
    obtain ⟨la, lb⟩ := ha.len
    refine ⟨(G.filter fun p => p.d % 64 == 0).map fun p => (p.d, p.r), regAt θ0 G, ⟨?_, rfl, ?_, ?_, ?_, ?_, ?_, hsub, Mem.Le.refl μ, fun b o v hm => .inl hm, ⟨rfl, rfl, rfl, Nat.le_refl _, fun b _ => .inl rfl⟩⟩, ?_, ?_⟩
    · simp [g1, la]
    · intro n
      show Rep φ μ _ ((xs ++ List.replicate (nt - args.length) AV.any).getD n AV.any) _
      rw [List.getD_eq_getElem?_getD, List.getElem?_append]
      split
      · rename_i hn
        have hn' : n < vals.length := by omega
        rw [List.getElem?_eq_getElem hn]
        rw [Array.getD_eq_getD_getElem?, Array.getElem?_append_left (by simpa using hn')]
        have := q1 n xs[n] vals[n] (List.getElem?_eq_getElem hn) (List.getElem?_eq_getElem hn')
        simpa [hn'] using this
      · have : ((List.replicate (nt - args.length) AV.any)[n - xs.length]?).getD AV.any = AV.any := by
          rw [List.getElem?_replicate]; split <;> rfl
        rw [this]
        exact .any _
    · intro p hp
      obtain ⟨q, hq, rfl⟩ := List.mem_map.1 hp
      have hq := (List.mem_filter.1 hq).1
      left
      rw [hV q hq, (g3 q hq).1]
    · intro d o ho
      obtain ⟨p, hp, rfl, rfl⟩ := live d o ho
      rw [regAt_in g2 p hp]
      exact q2 p hp
    · intro d d' o o' hdd ho ho'
      obtain ⟨p, hp, rfl, rfl⟩ := live d o ho
      obtain ⟨q, hq, rfl, rfl⟩ := live d' o' ho'
      rw [regAt_in g2 p hp, regAt_in g2 q hq]
      obtain ⟨i, hi, rfl⟩ := List.mem_iff_getElem.1 hp
      obtain ⟨j, hj, rfl⟩ := List.mem_iff_getElem.1 hq
      rw [← g5] at hap
      have hpw := List.pairwise_iff_getElem.1 hap
      rcases Nat.lt_trichotomy i j with hij | hij | hij
      · have := hpw i j (by simpa using hi) (by simpa using hj) hij
        simp only [List.getElem_map] at this
        exact this
      · subst hij; exact absurd rfl hdd
      · have := hpw j i (by simpa using hj) (by simpa using hi) hij
        simp only [List.getElem_map] at this
        exact this.symm
    · intro d o ho b k hb
      obtain ⟨p, hp, rfl, rfl⟩ := live d o ho
      rw [regAt_in g2 p hp] at hb
      exact .inr ⟨p.r, hreg p hp, hb⟩
    · intro i b r L hb hh hL
      obtain ⟨p, hp, h1, h2⟩ := g6 i b r L hb hh hL
      refine List.mem_map.2 ⟨p, List.mem_filter.2 ⟨hp, ?_⟩, ?_⟩
      · rw [h1, beq_iff_eq]; omega
      · rw [h1, h2, Nat.zero_add]
    · intro p hp
      obtain ⟨q, hq, rfl⟩ := List.mem_map.1 hp
      obtain ⟨hq, hm⟩ := List.mem_filter.1 hq
      simp only [beq_iff_eq] at hm
      have := (g3 q hq).2.2
      exact ⟨q.d / 64, by show (q.d : Nat) = 64 * (q.d / 64); omega, by omega⟩
end
end Go.Vm
/- Where an activation ends. -/
namespace Go.Vm

section
variable {φ : Phi} {C : Fr} {θ : Slot → Reg} {μ μ' μ0 : Mem} {σ : State} {a : Act} {w w0 : World}

theorem load_val (h : Inv φ C θ μ σ a w) {P : Program} {orc : Oracle} {dst : Option Nat} {n : Nat} {t : TypeId} {v : AV} {ws : List W} (ht : okSize P t = true) (hr : ((ROp.load (P.cellsOf t) (isAggP P t) (.t n)).sem orc dst).run σ = some (v, ws)) :
    ∃ ad cv, a.tmps.getD n undef = .pointer (some ad) ∧ (loadVar t ad).run P w = .ok cv w ∧ Rep φ μ (viewOf σ θ) v cv := by
  simp only [ROp.sem, R.run_bind, Opnd.run_get, Option.bind_some, Opnd.val] at hr
  have e1 := h.tmp n
  have fin : ∀ (bl off : Nat) (cs : List AV), a.tmps.getD n undef = .pointer (some ⟨bl, off, none⟩) → At φ μ (viewOf σ θ) w bl off cs →
      (if isAggP P t then (if P.cellsOf t ≤ cs.length then R.ret (AV.agg (cs.take (P.cellsOf t)), ([] : List W)) else .fail)
       else match cs with
         | c :: _ => .ret (c, [])
         | [] => .fail).run σ = some (v, ws) → ∃ ad cv, a.tmps.getD n undef = .pointer (some ad) ∧ (loadVar t ad).run P w = .ok cv w ∧ Rep φ μ (viewOf σ θ) v cv := by
    intro bl off cs ha hat hrun
    cases hagg : isAggP P t with
    | true =>
      simp only [hagg, if_true] at hrun
      split at hrun
      · rename_i hle
        simp only [R.run_ret, Option.some.injEq, Prod.mk.injEq] at hrun
        obtain ⟨rfl, rfl⟩ := hrun
        obtain ⟨u, h1, h2⟩ := hat.load_agg ht hagg hle
        exact ⟨_, u, ha, by simpa [Instr.loadAt, Instr.sureAddr] using h1, h2⟩
      · simp [R.run_fail] at hrun
    | false =>
      simp only [hagg, Bool.false_eq_true, if_false] at hrun
      cases cs with
      | nil => simp [R.run_fail] at hrun
      | cons c cs =>
        simp only [R.run_ret, Option.some.injEq, Prod.mk.injEq] at hrun
        obtain ⟨rfl, rfl⟩ := hrun
        obtain ⟨u, h1, h2⟩ := hat.load_one ht hagg
        exact ⟨_, u, ha, by simpa [Instr.loadAt, Instr.sureAddr] using h1, h2⟩
  split at hr
  · rename_i cs hq
    rw [hq] at e1
    obtain ⟨bl, off, e2, e3⟩ := h.at_ro e1
    exact fin bl off cs e2 e3 hr
  · rename_i d st i off hq
    rw [hq] at e1
    simp only [R.run_bind] at hr
    cases hob : (theObj d st).run σ with
    | none => simp [hob] at hr
    | some ob =>
      simp only [hob, Option.bind_some] at hr
      split at hr
      · rename_i y hy
        obtain ⟨e2, e3⟩ := h.at_ref e1 (run_theObj.1 hob) hy
        exact fin _ _ _ e2 e3 hr
      · simp [R.run_fail] at hr
  · simp [R.run_fail] at hr

/-- The arguments that were owned, as they are left. -/
theorem leaves (h : Inv φ C θ μ σ a w) (hm : μ.Le μ') {taken : List Slot} : ∀ {args : List AV} {vals : List Value} {Ls : List (List Reg)} (t : Nat) {bs : List (Option AV)} {mv rd : List Slot},
    ArgsOK φ μ0 w0 args vals Ls → (∀ (i : Nat) (a : AV) (r : Reg) (L : List Reg), args[i]? = some a → a.handed = true → Ls[i]? = some (r :: L) → (64 * (t + i), r) ∈ C.gh) → (leaveR taken t args).run σ = some (bs, mv, rd) → (∀ d ∈ rd, Shut θ μ' σ w d) →
    ∃ Lbs, BacksOK φ μ' w vals bs Lbs ∧ Went θ σ Lbs.flatten mv
  | [], _, _, t, bs, mv, rd, ha, _, hr, _ => by
    cases ha
    simp only [leaveR, R.run_ret, Option.some.injEq, Prod.mk.injEq] at hr
    obtain ⟨rfl, rfl, rfl⟩ := hr
    exact ⟨[], .nil, .nil⟩
  | x :: xs, _, _, t, bs, mv, rd, ha, hgh, hr, hs => by
    cases ha with
    | @cons _ v L _ vals Ls h1 h2 =>
      have hgh' : ∀ (i : Nat) (a : AV) (r : Reg) (L : List Reg), xs[i]? = some a → a.handed = true → Ls[i]? = some (r :: L) → (64 * (t + 1 + i), r) ∈ C.gh := fun i b r L' hb hh hL => by
        have := hgh (i + 1) b r L' (by simpa using hb) hh (by simpa using hL)
        rwa [show t + (i + 1) = t + 1 + i by omega] at this
      have rest : (((leaveR taken (t + 1) xs).bind fun r => R.ret ((none : Option AV) :: r.1, r.2)).run σ = some (bs, mv, rd)) → ∃ Lbs, BacksOK φ μ' w (v :: vals) bs Lbs ∧ Went θ σ Lbs.flatten mv := by
        intro hr
        simp only [R.run_bind] at hr
        cases hq : (leaveR taken (t + 1) xs).run σ with
        | none => simp [hq] at hr
        | some q =>
          obtain ⟨bs', mv', rd'⟩ := q
          simp only [hq, Option.bind_some, R.run_ret, Option.some.injEq, Prod.mk.injEq] at hr
          obtain ⟨rfl, rfl, rfl⟩ := hr
          obtain ⟨Lbs, g1, g2⟩ := leaves h hm (t + 1) h2 hgh' hq hs
          exact ⟨[] :: Lbs, .none g1, by simpa using g2⟩
      have live : ∀ {r : Reg} {o : Obj}, (64 * t, r) ∈ C.gh → (σ.getO (64 * t)).obj = some o → (σ.getO (64 * t)).st = 1 → viewOf σ θ (64 * t) = (1, some r) := by
        intro r o hr ho hst
        rcases h.gh _ hr with g | g
        · exact g
        · simp only [Stale, viewOf, ho, hst] at g
          simp at g
      simp only [leaveR] at hr
      split at hr
      · -- a variable
        rename_i cs
        obtain ⟨r, F, f, rfl, rfl, p1, p2, p3, p4, p5, p6⟩ := h1.inout_inv
        have hin := hgh 0 _ r _ rfl rfl rfl
        rw [Nat.add_zero] at hin
        simp only [run_getO] at hr
        split at hr
        · rename_i o ho
          split at hr
          · rename_i hst
            simp only [beq_iff_eq] at hst
            have hv := live hin ho hst
            simp only [R.run_bind] at hr
            cases he : (expR depth (.ref (64 * t) 1 0 0)).run σ with
            | none => simp [he] at hr
            | some q =>
              obtain ⟨y, m1, r1⟩ := q
              simp only [he, Option.bind_some] at hr
              cases hq : (leaveR taken (t + 1) xs).run σ with
              | none => simp [hq] at hr
              | some q =>
                obtain ⟨bs', mv', rd'⟩ := q
                simp only [hq, Option.bind_some, R.run_ret, Option.some.injEq, Prod.mk.injEq] at hr
                obtain ⟨rfl, rfl, rfl⟩ := hr
                obtain ⟨Lbs, g1, g2⟩ := leaves h hm (t + 1) h2 hgh' hq (fun d hd => hs d (by simp [hd]))
                have hrep : Rep φ μ (viewOf σ θ) (.ref (64 * t) 1 0 0) (.pointer (some ⟨r.bl, r.off, none⟩)) := by
                  have := Rep.ref (φ := φ) (μ := μ) (64 * t) 1 0 0 r hv
                  simpa using this
                obtain ⟨L', g3, g4⟩ := h.exp hm depth _ y m1 r1 _ he hrep (fun d hd => hs d (by simp [hd]))
                exact ⟨L' :: Lbs, .some g3 g1, by simpa using g4.append g2⟩
          · simp [R.run_fail] at hr
        · simp [R.run_fail] at hr
      · -- a slice
        rename_i e ys
        obtain ⟨r, b, cap, rfl, rfl, p1, p2, p3, p4, p5, p6, p7, p8⟩ := h1.fresh_inv
        have hin := hgh 0 _ r _ rfl rfl rfl
        rw [Nat.add_zero] at hin
        simp only [run_getO] at hr
        split at hr
        · rename_i o ho
          split at hr
          · rename_i hc
            simp only [Bool.and_eq_true, beq_iff_eq, Bool.not_eq_true'] at hc
            obtain ⟨⟨⟨hst, _⟩, hlen⟩, hvar⟩ := hc
            have hv := live hin ho hst
            simp only [R.run_bind, run_frz, Option.bind_some] at hr
            split at hr
            · simp [R.run_fail] at hr
            · rename_i hz
              simp only [Bool.not_eq_true] at hz
              simp only [R.run_bind] at hr
              cases hq : (leaveR taken (t + 1) xs).run σ with
              | none => simp [hq] at hr
              | some q =>
                obtain ⟨bs', mv', rd'⟩ := q
                simp only [hq, Option.bind_some, R.run_ret, Option.some.injEq, Prod.mk.injEq] at hr
                obtain ⟨rfl, rfl, rfl⟩ := hr
                obtain ⟨Lbs, g1, g2⟩ := leaves h hm (t + 1) h2 hgh' hq hs
                have hrep : Rep φ μ (viewOf σ θ) (.sref (64 * t) 1 0 ys.length) (.slice b ys.length cap) :=
                  .sref (64 * t) 1 0 ys.length r b cap hv p5 (by rw [p2, p4]; simp) (by rw [p3]; simpa using p5) (fun hc => by rw [p6 hc]; simp)
                have he : (expR 1 (.sref (64 * t) 1 0 ys.length)).run σ = some (.fresh o.e o.xs, [64 * t], []) := by
                  have hth : (theObj (64 * t) 1).run σ = some o := by
                    rw [run_theObj]
                    cases hg : σ.getO (64 * t) with
                    | mk s ob => rw [hg] at ho hst; simp only at ho hst; subst ho hst; rfl
                  simp only [expR, R.run_bind, hth, Option.bind_some, run_frz, hvar, hz]
                  simp [hlen, R.run_ret]
                  rw [← hlen, List.take_length]
                obtain ⟨L', g3, g4⟩ := h.exp hm 1 _ _ _ _ _ he hrep (fun d hd => by cases hd)
                exact ⟨L' :: Lbs, .some g3 g1, by simpa using g4.append g2⟩
          · exact rest hr
        · exact rest hr
      · exact rest hr

/-- A result of the program's, and its counterpart. -/
def ResOK (P : Program) (r : ResultVar) (q : RRes) : Prop :=
  match r, q with
  | .tmp t, .t n => t = n
  | .cell a t, .cell b n agg => a = b ∧ okSize P t = true ∧ n = P.cellsOf t ∧ agg = isAggP P t
  | _, _ => False

def resVal (tmps : Array Value) : ResultVar → Sem Value
  | .tmp t => pure (tmps.getD t undef)
  | .cell a t => do loadVar t (← asAddr (tmps.getD a undef))

theorem results_eq (fn : Func) (tmps : Array Value) : results fn tmps = (do
    let vs ← fn.results.mapM (resVal tmps)
    pure (if h : vs.size = 1 then vs[0] else .tuple vs)) := by
  have : (fun r : ResultVar => (match r with
    | .tmp t => pure (tmps.getD t undef)
    | .cell a t => do loadVar t (← asAddr (tmps.getD a undef)) : Sem Value)) = resVal tmps := by
    funext r; cases r <;> rfl
  rw [← this]; rfl

theorem res_one (h : Inv φ C θ μ σ a w) {P : Program} {r : ResultVar} {q : RRes} (hq : ResOK P r q) {x : AV} (hr : q.get.run σ = some x) :
    ∃ cv, (resVal a.tmps r).run P w = .ok cv w ∧ Rep φ μ (viewOf σ θ) x cv := by
  cases r with
  | tmp t =>
    cases q with
    | t n =>
      simp only [ResOK] at hq
      subst hq
      simp only [RRes.get, R.run, Option.some.injEq] at hr
      subst hr
      exact ⟨_, by simp [resVal], h.tmp t⟩
    | cell b n agg => exact hq.elim
  | cell b t =>
    cases q with
    | t n => exact hq.elim
    | cell b' n agg =>
      simp only [ResOK] at hq
      obtain ⟨rfl, ht, rfl, rfl⟩ := hq
      simp only [RRes.get, R.run_bind] at hr
      cases hl : ((ROp.load (P.cellsOf t) (isAggP P t) (.t b)).sem (fun _ => none) none).run σ with
      | none => simp [hl] at hr
      | some q =>
        obtain ⟨v, ws⟩ := q
        simp only [hl, Option.bind_some, R.run_ret, Option.some.injEq] at hr
        subst hr
        obtain ⟨ad, cv, g1, g2, g3⟩ := load_val h ht hl
        refine ⟨cv, ?_, g3⟩
        simp only [resVal, g1, asAddr]
        simpa using g2

def tup : List Value → Value
  | [v] => v
  | vs => .tuple vs.toArray

theorem run_results {P : Program} {fn : Func} {tmps : Array Value} {vs : List Value} (hl : vs.length = fn.results.size)
    (hv : ∀ (j : Nat) (r : ResultVar) (v : Value), fn.results[j]? = some r → vs[j]? = some v → (resVal tmps r).run P w = .ok v w) :
    (results fn tmps).run P w = .ok (tup vs) w := by
  have key : ∀ (l : List ResultVar) (vs : List Value), vs.length = l.length → (∀ (j : Nat) (r : ResultVar) (v : Value), l[j]? = some r → vs[j]? = some v → (resVal tmps r).run P w = .ok v w) →
      (l.mapM (resVal tmps)).run P w = .ok vs w := by
    intro l
    induction l with
    | nil => intro vs hl _; have := List.length_eq_zero_iff.1 hl; subst this; rfl
    | cons r l ih =>
      intro vs hl hv
      cases vs with
      | nil => simp at hl
      | cons v vs =>
        rw [List.mapM_cons]
        simp only [Sem.run_bind, hv 0 r v rfl rfl, Result.andThen_ok]
        rw [ih vs (by simpa using hl) (fun j r v h1 h2 => hv (j + 1) r v (by simpa using h1) (by simpa using h2))]
        simp
  have h1 := key fn.results.toList vs (by simpa using hl) (fun j r v h1 h2 => hv j r v (by simpa using h1) h2)
  have h2 : (fn.results.mapM (resVal tmps)).run P w = .ok vs.toArray w := by
    rw [Array.mapM_eq_mapM_toList]
    simp only [map_eq_pure_bind, Sem.run_bind, h1, Result.andThen_ok]
    simp
  rw [results_eq, Sem.run_bind, h2, Result.andThen_ok]
  cases vs with
  | nil => simp [tup]
  | cons v vs =>
    cases vs with
    | nil => simp [tup]
    | cons u vs => simp [tup]

theorem shapes_get : ∀ (sh : List Shape) (l : List AV), (shapes sh l).length = l.length ∧ ∀ (j : Nat) (y : AV), (shapes sh l)[j]? = some y → ∃ s y0, l[j]? = some y0 ∧ y = nf s y0
  | _, [] => by simp [shapes]
  | sh, a :: as => by
    obtain ⟨i1, i2⟩ := shapes_get sh.tail as
    refine ⟨by simp [shapes, i1], fun j y hy => ?_⟩
    cases j with
    | zero => simp [shapes] at hy; exact ⟨_, a, by simp, hy.symm⟩
    | succ j => simpa using i2 j y (by simpa [shapes] using hy)

/-- Each of a list, handed out, in its normal form. -/
theorem nfAll {ys : List AV} {u : Nat → Value} : ∀ {n : Nat} {L : Nat → List Reg} {mv : List Slot} (k : Nat) (sh : List Shape), n = ys.length - k → k ≤ ys.length →
    (∀ (j : Nat) (c : AV), ys[j]? = some c → Own φ μ' w c (u j) (L j)) → Went θ σ ((List.range n).flatMap fun j => L (k + j)) mv →
    ∃ L' : Nat → List Reg, (∀ (j : Nat) (c : AV), (shapes sh (ys.drop k))[j]? = some c → Own φ μ' w c (u (k + j)) (L' j)) ∧ Went θ σ ((List.range n).flatMap L') mv
  | 0, L, mv, k, sh, hn, hk, ho, hw => by
    have : ys.drop k = [] := List.drop_eq_nil_of_le (by omega)
    rw [this]
    exact ⟨fun _ => [], by simp [shapes], hw⟩
  | n + 1, L, mv, k, sh, hn, hk, ho, hw => by
    have hlt : k < ys.length := by omega
    rw [range_flatMap_succ] at hw
    obtain ⟨D1, D2, rfl, h1, h2⟩ := hw.split
    simp only [Nat.add_zero] at h1
    obtain ⟨L0, g1, g2⟩ := (ho k ys[k] (List.getElem?_eq_getElem hlt)).nf h1 (sh.headD [])
    obtain ⟨L', g3, g4⟩ := nfAll (n := n) (L := L) (k + 1) sh.tail (by omega) (by omega) ho (by
      refine cast ?_ h2
      congr 2
      funext j
      rw [show k + (j + 1) = k + 1 + j by omega])
    refine ⟨fun j => match j with | 0 => L0 | j + 1 => L' j, fun j c hc => ?_, ?_⟩
    · rw [List.drop_eq_getElem_cons hlt] at hc
      cases j with
      | zero => simp [shapes] at hc; subst hc; simpa using g1
      | succ j =>
        have := g3 j c (by simpa [shapes] using hc)
        rwa [show k + 1 + j = k + (j + 1) by omega] at this
    · rw [range_flatMap_succ]
      exact g2.append g4

theorem finish_spec {gh : List (Slot × Reg)} {args : List AV} {vals : List Value} {Ls : List (List Reg)} (h : Inv φ ⟨w0, μ0, Inside Ls.flatten, gh⟩ θ μ σ a w) (ha : ArgsOK φ μ0 w0 args vals Ls)
    (hgh : ∀ (i : Nat) (a : AV) (r : Reg) (L : List Reg), args[i]? = some a → a.handed = true → Ls[i]? = some (r :: L) → (64 * i, r) ∈ gh) {P : Program} {fn : Func} {f : RFunc} (hlen : f.res.length = fn.results.size)
    (hres : ∀ (j : Nat) (r : ResultVar) (q : RRes × Shape), fn.results[j]? = some r → f.res[j]? = some q → ResOK P r q.1) {r : Res} (hr : (finish f args).run σ = some r) :
    ∃ v, (results fn a.tmps).run P w = .ok v w ∧ Left φ μ0 w0 Ls.flatten vals r v w := by
  simp only [finish, R.run_bind] at hr
  cases h1 : (mapR (fun (r : RRes × Shape) => r.1.get) f.res).run σ with
  | none => simp [h1] at hr
  | some xs =>
    simp only [h1, Option.bind_some] at hr
    cases h2 : (expL depth xs).run σ with
    | none => simp [h2] at hr
    | some q =>
      obtain ⟨ys, mv, rd⟩ := q
      simp only [h2, Option.bind_some] at hr
      cases h3 : (leaveR mv 0 args).run σ with
      | none => simp [h3] at hr
      | some q =>
        obtain ⟨bs, mv2, rd2⟩ := q
        simp only [h3, Option.bind_some] at hr
        split at hr
        · rename_i hc
          simp only [Bool.and_eq_true] at hc
          obtain ⟨hnd, hrd⟩ := hc
          simp only [R.run_ret, Option.some.injEq] at hr
          subst hr
          have hM := nodup_spec hnd
          have hdis : ∀ d ∈ mv ++ mv2, d ∉ rd ++ rd2 := by
            intro d hd hd'
            rw [List.all_eq_true] at hrd
            have := hrd d hd'
            simp only [Bool.not_eq_true'] at this
            rw [List.contains_iff_mem.2 hd] at this
            cases this
          obtain ⟨m1, m2⟩ := mapR_spec h1
          -- the program's own values
          have hvals : ∀ j, j < xs.length → ∃ cv, (∀ (x : AV) (r : ResultVar), xs[j]? = some x → fn.results[j]? = some r → (resVal a.tmps r).run P w = .ok cv w) ∧ ∀ x, xs[j]? = some x → Rep φ μ (viewOf σ θ) x cv := by
            intro j hj
            have hj' : j < f.res.length := by omega
            have hj2 : j < fn.results.size := by omega
            obtain ⟨x, k1, k2⟩ := m2 j f.res[j] (List.getElem?_eq_getElem hj')
            obtain ⟨cv, k3, k4⟩ := res_one h (hres j fn.results[j] f.res[j] (Array.getElem?_eq_getElem hj2) (List.getElem?_eq_getElem hj')) k2
            refine ⟨cv, fun y r hy hr => ?_, fun y hy => ?_⟩
            · rw [Array.getElem?_eq_getElem hj2] at hr; cases hr; exact k3
            · rw [k1] at hy; cases hy; exact k4
          classical
          let u : Nat → Value := fun j => if hj : j < xs.length then Classical.choose (hvals j hj) else undef
          have hu : ∀ j (hj : j < xs.length), (∀ (x : AV) (r : ResultVar), xs[j]? = some x → fn.results[j]? = some r → (resVal a.tmps r).run P w = .ok (u j) w) ∧ ∀ x, xs[j]? = some x → Rep φ μ (viewOf σ θ) x (u j) := by
            intro j hj
            simp only [u, hj, dif_pos]
            exact Classical.choose_spec (hvals j hj)
          have hxl : xs.length = fn.results.size := by rw [m1, hlen]
          have hrun := run_results (w := w) (P := P) (fn := fn) (tmps := a.tmps) (vs := (List.range xs.length).map u) (by simp [hxl]) (fun j r v hr hv => by
            have hj : j < xs.length := by rw [hxl]; exact (Array.getElem?_eq_some_iff.1 hr).1
            simp only [List.getElem?_map, List.getElem?_range hj, Option.map_some, Option.some.injEq] at hv
            subst hv
            exact (hu j hj).1 xs[j] r (List.getElem?_eq_getElem hj) hr)
          obtain ⟨μ1, f1, f2, f3, f4⟩ := h.freezeAll (rd ++ rd2)
          obtain ⟨o1, L, o2, o3⟩ := outs (μ' := μ1) (h.exp f1 depth) xs ys mv rd u h2 (fun j c hc => (hu j (List.getElem?_eq_some_iff.1 hc).1).2 c hc) (fun d hd => f3 d (by simp [hd]))
          obtain ⟨Lbs, b1, b2⟩ := leaves h f1 0 ha (fun i a r L ha hh hL => by rw [Nat.zero_add]; exact hgh i a r L ha hh hL) h3 (fun d hd => f3 d (by simp [hd]))
          obtain ⟨L', n1, n2⟩ := nfAll (n := xs.length) (L := L) 0 (f.res.map (·.2)) (by rw [o1]; rfl) (Nat.zero_le _) o2 (by simpa using o3)
          simp only [List.drop_zero, Nat.zero_add] at n1
          obtain ⟨sl, _⟩ := shapes_get (f.res.map (·.2)) ys
          generalize hzs : shapes (f.res.map (·.2)) ys = zs at n1 sl
          generalize hσ1 : σ.applyAll (setFs (rd ++ rd2)) = σ1 at f2
          have hO1 : ∀ d, σ1.getO d = σ.getO d := by intro d; rw [← hσ1, setFs_O]
          have hF1 : ∀ d ∈ mv ++ mv2, σ1.getF d = σ.getF d := by
            intro d hd
            rw [← hσ1, setFs_F]
            have : (rd ++ rd2).contains d = false := by
              cases hcc : (rd ++ rd2).contains d with
              | false => rfl
              | true => exact absurd (List.contains_iff_mem.1 hcc) (hdis d hd)
            rw [this, Bool.false_or]
          have went : ∀ {Lr : List Reg}, Went θ σ Lr mv → (Lr ++ Lbs.flatten).Pairwise Reg.Apart ∧ ∀ q ∈ Lr ++ Lbs.flatten, RegOK μ1 w q ∧ ∀ b k, q.Has b k → w0.heap.size ≤ b ∨ Inside Ls.flatten b k := by
            intro Lr hLr
            have hw1 : Went θ σ1 (Lr ++ Lbs.flatten) (mv ++ mv2) := (hLr.append b2).flags fun d hd => ⟨hO1 d, hF1 d hd⟩
            refine ⟨hw1.apart f2 hM, fun q hq => ?_⟩
            rcases hw1.mem q hq with h0 | ⟨d, hd, ⟨o, ho⟩, hz, hsub⟩
            · exact ⟨⟨fun k hk => by omega, fun k hk => by omega, fun k hk => by omega⟩, fun b k hb => (Reg.none_of h0 hb).elim⟩
            · exact ⟨f2.regOK ho hz hsub, fun b k hb => f2.mine d o ho b k (hsub b k hb)⟩
          have hnew : ∀ b k v, μ1 b k = some v → μ0 b k = some v ∨ w0.heap.size ≤ b ∨ Inside Ls.flatten b k := fun b k v hm => f2.new b k v hm
          refine ⟨_, hrun, ?_⟩
          -- one result, or a tuple of them
          by_cases hone : xs.length = 1
          · have hzl : zs.length = 1 := by rw [sl, o1, hone]
            obtain ⟨z, rfl⟩ : ∃ z, zs = [z] := by
              cases zs with
              | nil => simp at hzl
              | cons z r => cases r with
                | nil => exact ⟨z, rfl⟩
                | cons _ _ => simp at hzl
            have hown := n1 0 z rfl
            rw [hone] at n2
            have n2' : Went θ σ (L' 0) mv := by simpa using n2
            obtain ⟨w1, w2⟩ := went n2'
            have hv1 : tup ((List.range xs.length).map u) = u 0 := by rw [hone]; rfl
            rw [hv1]
            exact ⟨μ1, L' 0, Lbs, h.le.trans f1, f2.sub, hnew, h.frame, hown, b1, w1, w2⟩
          · obtain ⟨w1, w2⟩ := went n2
            have hv1 : tup ((List.range xs.length).map u) = .tuple ((List.range xs.length).map u).toArray := by
              unfold tup
              split
              · rename_i heq
                have := congrArg List.length heq
                simp at this
                exact absurd this hone
              · rfl
            have hv2 : tupA zs = .tuple zs := by
              cases zs with
              | nil => rfl
              | cons z r => cases r with
                | nil => simp only [List.length_singleton] at sl; omega
                | cons _ _ => rfl
            rw [hv1]
            refine ⟨μ1, (List.range xs.length).flatMap L', Lbs, h.le.trans f1, f2.sub, hnew, h.frame, ?_, b1, w1, w2⟩
            simp only
            rw [hv2]
            have := Own.tuple (φ := φ) (μ := μ1) (w := w) zs ((List.range xs.length).map u).toArray L' (by simp [sl, o1]) (fun j c v hc hv => by
              have hj : j < xs.length := by have := (List.getElem?_eq_some_iff.1 hc).1; omega
              simp only [List.getElem?_toArray, List.getElem?_map, List.getElem?_range hj, Option.map_some, Option.some.injEq] at hv
              subst hv
              exact n1 j c hc)
            rw [sl, o1] at this
            exact this
        · simp [R.run_fail] at hr
end
end Go.Vm
/- What is carried from one round of a loop to the next. -/
namespace Go.Vm

section
variable {φ : Phi} {C : Fr} {θ : Slot → Reg} {μ : Mem} {σ : State} {a : Act} {w : World}

theorem cleanL_get (b : Nat) (ds : List Slot) (ob : List (Slot × SlotSt)) : ∀ (l : List AV), (AV.clean.cleanL b ds ob l).length = l.length ∧ ∀ j : Nat, (AV.clean.cleanL b ds ob l)[j]? = (l[j]?).map (AV.clean b ds ob)
  | [] => ⟨rfl, fun j => by simp [AV.clean.cleanL]⟩
  | x :: l => by
    obtain ⟨h1, h2⟩ := cleanL_get b ds ob l
    refine ⟨by simp [AV.clean.cleanL, h1], fun j => ?_⟩
    cases j with
    | zero => simp [AV.clean.cleanL]
    | succ j => simpa [AV.clean.cleanL] using h2 j

theorem clean_notAgg {b : Nat} {ds : List Slot} {ob : List (Slot × SlotSt)} {x : AV} (h : ∀ cs, x ≠ .agg cs) : ∀ cs, x.clean b ds ob ≠ .agg cs := by
  intro cs hc
  cases x with
  | agg cs => exact h cs rfl
  | ref => simp only [AV.clean] at hc; split at hc <;> cases hc
  | sref => simp only [AV.clean] at hc; split at hc <;> cases hc
  | _ => simp [AV.clean] at hc

theorem clean_cells (b : Nat) (ds : List Slot) (ob : List (Slot × SlotSt)) (x : AV) : (x.clean b ds ob).cells.length = x.cells.length ∧ ∀ j : Nat, (x.clean b ds ob).cells[j]? = (x.cells[j]?).map (AV.clean b ds ob) := by
  rcases x.agg_or with ⟨cs, rfl⟩ | ha
  · simp only [AV.clean, AV.cells]
    exact cleanL_get b ds ob cs
  · rw [AV.cells_one ha, AV.cells_one (clean_notAgg ha)]
    refine ⟨rfl, fun j => ?_⟩
    cases j with
    | zero => simp
    | succ j => simp

theorem look_map {f : Slot → SlotSt} : ∀ (ds : List Slot) (r : List (Slot × SlotSt)) (d : Slot), look d (ds.map (fun d => (d, f d)) ++ r) = if d ∈ ds then f d else look d r
  | [], r, d => by simp
  | e :: ds, r, d => by
    simp only [List.map_cons, List.cons_append, look]
    by_cases h : e = d
    · subst h; simp
    · have h1 : (e == d) = false := by simpa using h
      have h2 : ¬ d = e := fun e' => h e'.symm
      simp only [h1, Bool.false_eq_true, if_false, look_map ds r d, List.mem_cons, h2, false_or]

theorem look_twos : ∀ (l : List Nat) (d : Slot), look d (l.map fun t => (64 * t, (⟨2, none⟩ : SlotSt))) = if ∃ t ∈ l, d = 64 * t then ⟨2, none⟩ else ⟨0, none⟩
  | [], d => by simp [look]
  | t :: l, d => by
    simp only [List.map_cons, look]
    by_cases h : 64 * t = d
    · subst h; simp
    · have h1 : (64 * t == d) = false := by simpa using h
      have h2 : ¬ d = 64 * t := fun e' => h e'.symm
      rw [h1, look_twos l d]
      simp only [Bool.false_eq_true, if_false, List.mem_cons, exists_eq_or_imp, h2, false_or]

theorem keepT_get (ts : List Nat) (f : AV → AV) : ∀ (l : List AV) (k : Nat), (keepT ts f k l).length = l.length ∧ ∀ j : Nat, (keepT ts f k l)[j]? = (l[j]?).map fun x => if ts.contains (k + j) then f x else .any
  | [], k => ⟨rfl, fun j => by simp [keepT]⟩
  | x :: l, k => by
    obtain ⟨h1, h2⟩ := keepT_get ts f l (k + 1)
    refine ⟨by simp [keepT, h1], fun j => ?_⟩
    cases j with
    | zero => simp [keepT]
    | succ j =>
      simp only [keepT, List.getElem?_cons_succ]
      rw [h2, show k + 1 + j = k + (j + 1) by omega]

section
variable {b : Nat} {ts : List Nat} {ds : List Slot}

theorem norm_O (d : Slot) : (norm (some (b, ts, ds)) σ).getO d = if d ∈ ds then ⟨newSt b d (σ.getO d).st, (σ.getO d).obj.map (cleanObj b ds σ.ob)⟩ else if ∃ t : Nat, t < b / 64 ∧ ¬64 * t ∈ ds ∧ d = 64 * t then ⟨2, none⟩ else ⟨0, none⟩ := by
  show look d _ = _
  simp only [norm]
  rw [look_map (f := fun d => ⟨newSt b d (look d σ.ob).st, (look d σ.ob).obj.map (cleanObj b ds σ.ob)⟩), look_twos]
  simp only [List.mem_filter, List.mem_range, Bool.not_eq_true', List.contains_eq_mem, decide_eq_false_iff_not, and_assoc]
  rfl

theorem norm_F (d : Slot) : (norm (some (b, ts, ds)) σ).getF d = (decide (d ∈ ds) && σ.getF d) := by
  show (ds.filter fun d => σ.fl.contains d).contains d = _
  rw [Bool.eq_iff_iff, List.contains_iff_mem, List.mem_filter, Bool.and_eq_true, decide_eq_true_eq]
  rfl

/-- The slot's name after. -/
theorem norm_live {d st : Nat} {r : Reg} (h : viewOf σ θ d = (st, some r)) (hd : d ∈ ds) : viewOf (norm (some (b, ts, ds)) σ) θ d = (newSt b d st, some r) := by
  simp only [viewOf, norm_O, if_pos hd] at h ⊢
  simp only [Prod.mk.injEq] at h
  obtain ⟨h1, h2⟩ := h
  rw [h1]
  cases ho : (σ.getO d).obj with
  | none => rw [ho] at h2; cases h2
  | some o => rw [ho] at h2; simpa using h2

theorem cond_live {d st : Nat} (h : (ds.contains d && (look d σ.ob).st == st && (look d σ.ob).obj.isSome) = true) : d ∈ ds ∧ ∃ r, viewOf σ θ d = (st, some r) := by
  simp only [Bool.and_eq_true, beq_iff_eq, List.contains_iff_mem] at h
  obtain ⟨⟨h1, h2⟩, h3⟩ := h
  obtain ⟨o, ho⟩ := Option.isSome_iff_exists.1 h3
  refine ⟨h1, θ d, ?_⟩
  show ((σ.getO d).st, (σ.getO d).obj.map fun _ => θ d) = _
  have e1 : (σ.getO d).st = st := h2
  have e2 : (σ.getO d).obj = some o := ho
  rw [e1, e2]; rfl

theorem RV.clean {x : AV} {v : Value} (h : RV φ μ x v) : Rep φ μ (viewOf (norm (some (b, ts, ds)) σ) θ) (x.clean b ds σ.ob) v := by
  induction h with
  | agg cs vs h1 _ ih =>
    obtain ⟨c1, c2⟩ := cleanL_get b ds σ.ob cs
    refine .agg _ vs (by rw [h1, c1]) fun j c u hc hu => ?_
    rw [c2] at hc
    simp only [Option.map_eq_some_iff] at hc
    obtain ⟨c0, hc0, rfl⟩ := hc
    exact ih j c0 u hc0 hu
  | fn g a c f va vc h1 h2 h3 _ _ i1 i2 =>
    obtain ⟨a1, a2⟩ := cleanL_get b ds σ.ob a
    obtain ⟨c1, c2⟩ := cleanL_get b ds σ.ob c
    refine .fn g _ _ f va vc h1 (by rw [h2, a1]) (by rw [h3, c1]) (fun j x v hx hv => ?_) (fun j x v hx hv => ?_)
    · rw [a2] at hx
      simp only [Option.map_eq_some_iff] at hx
      obtain ⟨c0, hc0, rfl⟩ := hx
      exact i1 j c0 v hc0 hv
    · rw [c2] at hx
      simp only [Option.map_eq_some_iff] at hx
      obtain ⟨c0, hc0, rfl⟩ := hx
      exact i2 j c0 v hc0 hv
  | anyc v h => exact .val (.anyc v h)
  | int k n => exact .val (.int k n)
  | bool b => exact .val (.bool b)
  | str s => exact .val (.str s)
  | nilp => exact .val .nilp
  | nil => exact .val .nil
  | emp a c => exact .val (.emp a c)
  | slE e b c h => exact .val (.slE e b c h)
  | sl e xs bl off cap f h1 h2 h3 h4 _ => exact .val (.sl e xs bl off cap f h1 h2 h3 h4)
  | ro cs bl off f h1 h2 _ => exact .val (.ro cs bl off f h1 h2)

theorem Rep.clean {x : AV} {v : Value} (h : Rep φ μ (viewOf σ θ) x v) : Rep φ μ (viewOf (norm (some (b, ts, ds)) σ) θ) (x.clean b ds σ.ob) v := by
  induction h with
  | any v => exact .any v
  | val h => exact h.clean
  | agg cs vs h1 _ ih =>
    obtain ⟨c1, c2⟩ := cleanL_get b ds σ.ob cs
    refine .agg _ vs (by rw [h1, c1]) fun j c u hc hu => ?_
    rw [c2] at hc
    simp only [Option.map_eq_some_iff] at hc
    obtain ⟨c0, hc0, rfl⟩ := hc
    exact ih j c0 u hc0 hu
  | tuple cs vs h1 _ ih => exact .any _
  | fn g a c f va vc h1 h2 h3 _ _ i1 i2 =>
    obtain ⟨a1, a2⟩ := cleanL_get b ds σ.ob a
    obtain ⟨c1, c2⟩ := cleanL_get b ds σ.ob c
    refine .fn g _ _ f va vc h1 (by rw [h2, a1]) (by rw [h3, c1]) (fun j x v hx hv => ?_) (fun j x v hx hv => ?_)
    · rw [a2] at hx
      simp only [Option.map_eq_some_iff] at hx
      obtain ⟨c0, hc0, rfl⟩ := hx
      exact i1 j c0 v hc0 hv
    · rw [c2] at hx
      simp only [Option.map_eq_some_iff] at hx
      obtain ⟨c0, hc0, rfl⟩ := hx
      exact i2 j c0 v hc0 hv
  | ref d st i off r h =>
    simp only [AV.clean]
    split
    · rename_i hc
      obtain ⟨hd, r', hr'⟩ := cond_live (θ := θ) hc
      exact .ref d _ i off r (norm_live h hd)
    · exact .val (.anyc _ rfl)
  | refX d st i off v h h1 =>
    simp only [AV.clean]
    split
    · rename_i hc
      obtain ⟨hd, r', hr'⟩ := cond_live (θ := θ) hc
      exact (h.not_live hr').elim
    · exact .val (.anyc _ h1)
  | sref d st lo len r b' cap h h1 h2 h3 h4 =>
    simp only [AV.clean]
    split
    · rename_i hc
      obtain ⟨hd, r', hr'⟩ := cond_live (θ := θ) hc
      exact .sref d _ lo len r b' cap (norm_live h hd) h1 h2 h3 h4
    · exact .val (.anyc _ rfl)
  | srefX d st lo len v h h1 =>
    simp only [AV.clean]
    split
    · rename_i hc
      obtain ⟨hd, r', hr'⟩ := cond_live (θ := θ) hc
      exact (h.not_live hr').elim
    · exact .val (.anyc _ h1)
  | spare d st lo len r cap h h1 => exact .val (.anyc _ rfl)
  | spareX d st lo len v h h1 => exact .val (.anyc _ h1)

theorem Inv.norm (h : Inv φ C θ μ σ a w) (hgh : ∀ p ∈ C.gh, ∃ t : Nat, p.1 = 64 * t ∧ t < b / 64) : Inv φ C θ μ (norm (some (b, ts, ds)) σ) a w := by
  have live : ∀ d o, ((Vm.norm (some (b, ts, ds)) σ).getO d).obj = some o → d ∈ ds ∧ ∃ o', (σ.getO d).obj = some o' ∧ o = cleanObj b ds σ.ob o' := by
    intro d o ho
    rw [norm_O] at ho
    split at ho
    · rename_i hd
      simp only [Option.map_eq_some_iff] at ho
      obtain ⟨o', h1, h2⟩ := ho
      exact ⟨hd, o', h1, h2.symm⟩
    · split at ho <;> cases ho
  obtain ⟨k1, k2⟩ := keepT_get ts (AV.clean b ds σ.ob) σ.tm 0
  refine ⟨?_, h.defers, ?_, ?_, ?_, ?_, ?_, h.sub, h.le, h.new, h.frame⟩
  · show a.tmps.size = (keepT ts (AV.clean b ds σ.ob) 0 σ.tm).length
    rw [k1]; exact h.len
  · intro n
    show Rep φ μ _ ((keepT ts (AV.clean b ds σ.ob) 0 σ.tm).getD n .any) _
    rw [List.getD_eq_getElem?_getD, k2]
    cases hx : σ.tm[n]? with
    | none => exact .any _
    | some x =>
      simp only [Option.map_some, Option.getD_some]
      split
      · have := h.tmp n
        have e : σ.getT n = x := by simp [State.getT, List.getD_eq_getElem?_getD, hx]
        rw [e] at this
        exact this.clean
      · exact .any _
  · intro p hp
    obtain ⟨t, ht, hlt⟩ := hgh p hp
    have hb : (p.1 : Nat) < b := by rw [ht]; show 64 * t < b; omega
    by_cases hd : p.1 ∈ ds
    · rcases h.gh p hp with g | g
      · left
        rw [norm_live g hd]
        have hb' : (p.1 : Nat) < b := hb
        simp [newSt, hb']
      · right
        simp only [Stale, viewOf, norm_O, if_pos hd] at g ⊢
        rcases g with g | ⟨g, g2⟩
        · left
          have : ¬ (σ.getO p.1).st = 1 := by omega
          simp [newSt, this]
        · by_cases h1 : (σ.getO p.1).st = 1
          · right
            have hb' : (p.1 : Nat) < b := hb
            refine ⟨by simp [newSt, h1, hb'], ?_⟩
            cases ho : (σ.getO p.1).obj with
            | none => rfl
            | some o => rw [ho] at g2; cases g2
          · left; simp [newSt, h1]
    · right; left
      simp only [viewOf, norm_O, if_neg hd]
      rw [if_pos ⟨t, hlt, by rw [← ht]; exact hd, ht⟩]
      exact Nat.lt_succ_self _
  · intro d o ho
    obtain ⟨hd, o', ho', rfl⟩ := live d o ho
    have hok := h.obj d o' ho'
    have hF : (Vm.norm (some (b, ts, ds)) σ).getF d = σ.getF d := by rw [norm_F]; simp [hd]
    rw [hF]
    cases hv : o'.var with
    | false =>
      have e : cleanObj b ds σ.ob o' = o' := by simp [cleanObj, hv]
      rw [e]
      refine ⟨hok.e, hok.pos, hok.cap, hok.fit, hok.room, hok.size, hok.one, ?_, hok.there, hok.soft, hok.free⟩
      intro i j x c hx hc
      obtain ⟨v, g1, g2, g3, g4⟩ := hok.cell i j x c hx hc
      exact ⟨v, g1, .val (g3 hv), g3, g4⟩
    | true =>
      have e : cleanObj b ds σ.ob o' = { o' with xs := AV.clean.cleanL b ds σ.ob o'.xs } := by simp [cleanObj, hv]
      rw [e]
      obtain ⟨c1, c2⟩ := cleanL_get b ds σ.ob o'.xs
      refine ⟨hok.e, hok.pos, hok.cap, by simp only; rw [c1]; exact hok.fit, hok.room, ?_, fun hv' => (by simp only at hv'; rw [hv] at hv'; cases hv'), ?_, hok.there, hok.soft, ?_⟩
      · intro i x hx
        simp only [c2, Option.map_eq_some_iff] at hx
        obtain ⟨x0, hx0, rfl⟩ := hx
        rw [(clean_cells b ds σ.ob x0).1]
        exact hok.size i x0 hx0
      · intro i j x c hx hc
        simp only [c2, Option.map_eq_some_iff] at hx
        obtain ⟨x0, hx0, rfl⟩ := hx
        rw [(clean_cells b ds σ.ob x0).2] at hc
        simp only [Option.map_eq_some_iff] at hc
        obtain ⟨c0, hc0, rfl⟩ := hc
        obtain ⟨v, g1, g2, g3, g4⟩ := hok.cell i j x0 c0 hx0 hc0
        exact ⟨v, g1, g2.clean, fun hv' => (by simp only at hv'; rw [hv] at hv'; cases hv'), g4⟩
      · intro k hk hz
        refine hok.free k hk (hz.imp id fun hz => ?_)
        simp only at hz
        rwa [c1] at hz
  · intro d d' o o' hdd ho ho'
    obtain ⟨_, o1, h1, _⟩ := live d o ho
    obtain ⟨_, o2, h2, _⟩ := live d' o' ho'
    exact h.apart d d' o1 o2 hdd h1 h2
  · intro d o ho
    obtain ⟨_, o1, h1, _⟩ := live d o ho
    exact h.mine d o1 h1
end
end
end Go.Vm
/- The interpreter does what the code does. -/
namespace Go.Vm

def lvOK (b : Nat) (lv : Option (Nat × List Nat × List Slot)) : Prop := lv = none ∨ ∃ ts ds, lv = some (b, ts, ds)
def ghIn (b : Nat) (C : Fr) : Prop := ∀ p ∈ C.gh, ∃ t : Nat, p.1 = 64 * t ∧ t < b / 64

def Ex.to : Ex → Exit
  | .normal => .normal
  | .exit id => .exit id
  | .ret => .ret

def Post (φ : Phi) (C : Fr) (e : Ex) (σ : State) : Exit → Act → World → Prop := fun x a w => x = e.to ∧ HasInv φ C σ a w

/-- Inside a loop. -/
def LoopWp (P : Program) (c : Code) (Q : Exit → Act → World → Prop) (a : Act) (w : World) : Prop :=
  ∀ (b : Frame) (k : List Item) (cs : List Frame), ∃ e a' w', Q e a' w' ∧ Arrives P (lone (b.at a (.code c :: .inLoop c :: k)) cs w) b k cs e a' w'

theorem wp_of_LoopWp {P : Program} {c : Code} {Q : Exit → Act → World → Prop} {a : Act} {w : World} (h : LoopWp P c Q a w) : (Code.loop c).wp P Q a w := fun b k cs =>
  let ⟨e, a', w', q, r⟩ := h b k cs; ⟨e, a', w', q, .of_steps (.one step_loop) r⟩

theorem LoopWp.round {P : Program} {c : Code} {Q : Exit → Act → World → Prop} {a : Act} {w : World} (h : c.wp P (Exit.then (LoopWp P c Q) Q) a w) : LoopWp P c Q a w := by
  intro b k cs
  obtain ⟨e, a₁, w₁, hq, harr⟩ := h b (.inLoop c :: k) cs
  cases e with
  | normal =>
    obtain ⟨e₂, a₂, w₂, hq₂, harr₂⟩ := hq b k cs
    exact ⟨e₂, a₂, w₂, hq₂, .of_steps (Steps.trans harr (.one step_inLoop)) harr₂⟩
  | exit id => exact ⟨_, a₁, w₁, hq, .pass (x := .inLoop c) rfl (fun _ _ => .inl (by simp)) harr⟩
  | goto l => exact ⟨_, a₁, w₁, hq, .pass (x := .inLoop c) rfl (fun _ _ => .inl (by simp)) harr⟩
  | ret => exact ⟨_, a₁, w₁, hq, .pass (x := .inLoop c) rfl (fun _ _ => .inl (by simp)) harr⟩
  | panic ch => exact ⟨_, a₁, w₁, hq, .pass (x := .inLoop c) rfl (fun _ _ => .inl (by simp)) harr⟩
  | outgrown => exact ⟨_, a₁, w₁, hq, .pass (x := .inLoop c) rfl (fun _ _ => .inl (by simp)) harr⟩

/-- An operation does what its counterpart says, calls and all. -/
def OpOK (X : Cx) (C : Fr) (orc : Oracle) (o : Oper) (r : ROp) : Prop :=
  ∀ (θ : Slot → Reg) (μ : Mem) (σ : State) (a : Act) (w : World) (v : AV) (ws : List W), Inv X.φ C θ μ σ a w → (r.sem orc o.dst).run σ = some (v, ws) →
    ∀ (next : Act → World → Prop) (Q : Exit → Act → World → Prop),
      (∀ cv w', (∃ θ' μ', Inv X.φ C θ' μ' (σ.applyAll ws) a w' ∧ Rep X.φ μ' (viewOf (σ.applyAll ws) θ') v cv) → next (a.put o.dst cv) w') → o.wp X.P a w next Q

theorem Sim.ok {X : Cx} {C : Fr} {orc : Oracle} {o : Oper} {r : ROp} (h : Sim X C o r) : OpOK X C orc o r := by
  intro θ μ σ a w v ws hi hr next Q hn
  obtain ⟨n, cv, w', h1, h2, h3⟩ := h orc θ μ σ a w v ws hi hr
  unfold Oper.wp
  rw [h1]
  rcases h2 with rfl | ⟨rfl, rfl⟩
  · exact hn cv w' h3
  · exact hn undef w' h3

section
variable {X : Cx} {C : Fr} {orc : Oracle}

theorem insP_spec {ops : Array Oper} {o : Oper} {i : Ins} (h : insP X ops o = some i) : opP X o = some i.op ∧ i.dst = o.dst ∧
    ((o.guard = none ∧ i.guard = none) ∨ ∃ j want g, o.guard = some (j, want) ∧ i.guard = some (g, want) ∧ (ops[j]?).bind (·.dst) = some g) := by
  unfold insP at h
  simp only [Option.bind_eq_bind, Option.pure_def] at h
  cases hop : opP X o with
  | none => simp [hop] at h
  | some r =>
    simp only [hop, Option.bind_some] at h
    split at h
    · rename_i hg
      simp only [Option.some.injEq] at h
      subst h
      exact ⟨rfl, rfl, .inl ⟨hg, rfl⟩⟩
    · rename_i j want hg
      cases hd : (ops[j]?).bind (·.dst) with
      | none => rw [hd] at h; simp at h
      | some g =>
        rw [hd] at h
        simp only [Option.bind_some, Option.some.injEq] at h
        subst h
        exact ⟨rfl, rfl, .inr ⟨j, want, g, hg, rfl, hd⟩⟩

theorem ins_sound {ops : Array Oper} {k : Nat} {o : Oper} {i : Ins} (hk : ops[k]? = some o) (hi : insP X ops o = some i) (hop : ∀ r, opP X o = some r → OpOK X C orc o r) {σ : State} {a : Act} {w : World} (hinv : HasInv X.φ C σ a w)
    {ws : List W} (hr : (i.sem orc).run σ = some ws) {K : Act → World → Prop} {Q : Exit → Act → World → Prop} (hK : ∀ a' w', HasInv X.φ C (σ.applyAll ws) a' w' → K a' w') : wpOp X.P ops Q k K a w := by
  obtain ⟨θ, μ, hinv⟩ := hinv
  obtain ⟨h1, h2, h3⟩ := insP_spec hi
  have main : ((i.op.sem orc i.dst).bind fun q => R.ret (q.2 ++ dstW i.dst q.1)).run σ = some ws → o.wp X.P a w K Q := by
    intro hm
    simp only [R.run_bind] at hm
    cases hq : (i.op.sem orc i.dst).run σ with
    | none => simp [hq] at hm
    | some q =>
      obtain ⟨v, us⟩ := q
      simp only [hq, Option.bind_some, R.run_ret, Option.some.injEq] at hm
      subst hm
      rw [h2] at hq
      refine hop i.op h1 θ μ σ a w v us hinv hq K Q fun cv w' ⟨θ', μ', g1, g2⟩ => hK _ _ ?_
      rw [applyAll_append, h2]
      exact ⟨θ', μ', g1.put o.dst g2⟩
  have skip : ws = dstW i.dst (.tuple []) → K (a.put o.dst undef) w := by
    intro e
    subst e
    refine hK _ _ ⟨θ, μ, ?_⟩
    rw [h2]
    exact hinv.put o.dst (.tuple [] #[] rfl (by simp))
  unfold wpOp
  rw [hk]
  simp only
  rcases h3 with ⟨g1, g2⟩ | ⟨j, want, g, g1, g2, g3⟩
  · have hw : Region.wanted o (yielded ops a.tmps) = true := by simp [Region.wanted, g1]
    rw [hw]
    simp only [if_true]
    left
    unfold Ins.sem at hr
    rw [g2] at hr
    exact main hr
  · unfold Ins.sem at hr
    rw [g2] at hr
    simp only [R.run] at hr
    have ht := hinv.tmp g
    have hy : yielded ops a.tmps j = match a.tmps[g]? with | some (.bool b) => some b | _ => none := by
      unfold yielded
      rw [g3, Option.bind_some]
      cases a.tmps[g]? with
      | none => rfl
      | some u => cases u <;> rfl
    split at hr
    · rename_i b hb
      rw [hb] at ht
      have hv := ht.bool_inv
      have hsome : a.tmps[g]? = some (.bool b) := by
        rw [Array.getD_eq_getD_getElem?] at hv
        cases hg : a.tmps[g]? with
        | none => rw [hg] at hv; simp [undef] at hv
        | some u => rw [hg] at hv; simpa using hv
      have hw : Region.wanted o (yielded ops a.tmps) = (b == want) := by
        simp only [Region.wanted, g1, hy, hsome]
        cases b <;> cases want <;> rfl
      rw [hw]
      split at hr
      · rename_i hbw
        rw [hbw]
        simp only [if_true]
        exact .inl (main hr)
      · rename_i hbw
        simp only [hbw, Bool.false_eq_true, if_false]
        simp only [R.run_ret, Option.some.injEq] at hr
        exact skip hr.symm
    · rename_i hb
      rw [hb] at ht
      obtain ⟨vs, hv, _⟩ := ht.tuple_inv
      have hw : Region.wanted o (yielded ops a.tmps) = false := by
        simp only [Region.wanted, g1, hy]
        rw [Array.getD_eq_getD_getElem?] at hv
        cases hg : a.tmps[g]? with
        | none => rfl
        | some u => rw [hg] at hv; simp only [Option.getD_some] at hv; subst hv; rfl
      rw [hw]
      simp only [Bool.false_eq_true, if_false]
      simp only [R.run_ret, Option.some.injEq] at hr
      exact skip hr.symm
    · simp [R.run_fail] at hr

theorem HasInv.like {φ : Phi} {σ σ' : State} {a : Act} {w : World} (h : HasInv φ C σ a w) (k : σ.Like σ') : HasInv φ C σ' a w := let ⟨θ, μ, h⟩ := h; ⟨θ, μ, h.like k⟩

theorem ops_sound {ops : Array Oper} {is : List Ins} (his : ops.toList.mapM (insP X ops) = some is) (hop : ∀ (j : Nat) (o : Oper) (r : ROp), ops[j]? = some o → opP X o = some r → OpOK X C orc o r) {F : Nat → List Key × List Key} {σ' : State} {Q : Exit → Act → World → Prop}
    (hK : ∀ a' w', HasInv X.φ C σ' a' w' → Q .normal a' w') : ∀ (l : List Nat) (σ : State) (a : Act) (w : World), HasInv X.φ C σ a w → Runs (fun j => ((is[j]?).map (·.sem orc)).getD .fail) F l σ σ' → wpOps X.P ops Q l a w
  | [], σ, a, w, hi, hr => hK a w (hi.like hr)
  | j :: l, σ, a, w, hi, hr => by
    obtain ⟨ws, h1, _, h3⟩ := hr
    rw [wpOps_cons]
    obtain ⟨m1, m2⟩ := mapM_get his
    cases ho : ops[j]? with
    | none =>
      have : is[j]? = none := by
        rw [List.getElem?_eq_none_iff, m1]
        have := Array.getElem?_eq_none_iff.1 ho
        simpa using this
      simp only [this] at h1
      simp [R.run_fail] at h1
    | some o =>
      obtain ⟨i, hi1, hi2⟩ := m2 j o (by simpa using ho)
      simp only [hi1, Option.map_some, Option.getD_some] at h1
      exact ins_sound ho hi2 (fun r hr => hop j o r ho hr) hi h1 fun a' w' ha => ops_sound his hop hK l _ a' w' ha h3

theorem Runs.congrF {I : Nat → R (List W)} {F G : Nat → List Key × List Key} : ∀ {l : List Nat} {σ σ' : State}, (∀ j ∈ l, F j = G j) → Runs I F l σ σ' → Runs I G l σ σ'
  | [], _, _, _, h => h
  | i :: l, σ, σ', hF, ⟨ws, h1, h2, h3⟩ => ⟨ws, h1, by rw [← hF i (by simp)]; exact h2, Runs.congrF (fun j hj => hF j (by simp [hj])) h3⟩

theorem runIns_runs {is : List Ins} : ∀ (r : List Ins) (k : Nat) (σ σ' : State), (∀ j, r[j]? = is[k + j]?) → runIns orc r σ = some σ' →
    Runs (fun j => ((is[j]?).map (·.sem orc)).getD .fail) (fun j => (runFoot orc r σ).getD (j - k) ([], [])) (List.range' k r.length) σ σ' ∧ (runFoot orc r σ).length = r.length
  | [], k, σ, σ', _, h => by
    simp only [runIns, Option.some.injEq] at h
    subst h
    exact ⟨State.Like.refl σ, rfl⟩
  | i :: r, k, σ, σ', hj, h => by
    simp only [runIns] at h
    cases hi : (i.sem orc).run σ with
    | none => simp [hi] at h
    | some ws =>
      simp only [hi] at h
      obtain ⟨h1, h2⟩ := runIns_runs r (k + 1) (σ.applyAll ws) σ' (fun j => by
        have := hj (j + 1)
        rw [show k + (j + 1) = k + 1 + j by omega] at this
        simpa using this) h
      have h0 : is[k]? = some i := by simpa using (hj 0).symm
      refine ⟨?_, by simp [runFoot, hi, h2]⟩
      rw [List.length_cons, List.range'_succ]
      refine ⟨ws, by simp [h0, hi], by simp [runFoot, hi, h0], h1.congrF fun j hj => ?_⟩
      have : k + 1 ≤ j := (List.mem_range'_1.1 hj).1
      simp only [runFoot, hi]
      rw [show j - k = (j - (k + 1)) + 1 by omega]
      simp

theorem drawOk_spec {bef : List Nat} {fs : List (List Key × List Key)} (h : drawOk bef fs = true) (i j : Nat) (hij : i < j) (hj : j < fs.length) : (bef.getD j 0).testBit i = true ∨ pairOk (fs.getD i ([], [])) (fs.getD j ([], [])) = true := by
  unfold drawOk at h
  rw [List.all_eq_true] at h
  have h1 := h (fs[j], j) (by rw [List.mem_zipIdx_iff_getElem?]; exact List.getElem?_eq_getElem hj)
  simp only [List.all_eq_true] at h1
  have hi : i < fs.length := by omega
  have h2 := h1 (fs[i], i) (by
    rw [List.mem_zipIdx_iff_getElem?]
    simp only [List.getElem?_take, hij, if_true]
    exact List.getElem?_eq_getElem hi)
  simp only [Bool.or_eq_true] at h2
  have e1 : fs.getD i ([], []) = fs[i] := by simp [List.getD_eq_getElem?_getD, hi]
  have e2 : fs.getD j ([], []) = fs[j] := by simp [List.getD_eq_getElem?_getD, hj]
  rw [e1, e2]
  exact h2

theorem Inv.drawn {φ : Phi} {θ : Slot → Reg} {μ : Mem} {σ : State} {a : Act} {w : World} (h : Inv φ C θ μ σ a w) (n : Nat) : Inv φ C θ μ σ a { w with drawn := n } where
  len := h.len
  defers := h.defers
  tmp := h.tmp
  gh := h.gh
  obj d o ho := let k := h.obj d o ho; ⟨k.e, k.pos, k.cap, k.fit, k.room, k.size, k.one, k.cell, k.there, k.soft, k.free⟩
  apart := h.apart
  mine := h.mine
  sub := h.sub
  le := h.le
  new := h.new
  frame := ⟨h.frame.os, h.frame.tape, h.frame.output, h.frame.size, h.frame.same⟩

/-- What is known of the oracle. -/
structure Sound (P : Program) (φ : Phi) (orc : Oracle) : Prop where
  call : ∀ (g : Nat) (args : List AV) (r : Res), orc (.call g args) = some (.res r) → CallOK P φ g args r
  loop : ∀ (lv : Option (Nat × List Nat × List Slot)) (ra : RCode) (σ : State) (e : Ex) (σ' : State), orc (.loop lv ra σ) = some (.st e σ') → ∀ (X : Cx) (C : Fr) (b blk : Nat) (c : Code) (a : Act) (w : World), X.P = P → X.φ = φ →
    codeP X b blk c = some ra → lvOK b lv → ghIn b C → HasInv φ C σ a w → LoopWp P c (Post φ C e σ') a w

/-- All operations that have a counterpart. -/
def OpsOK (P : Program) (φ : Phi) (orc : Oracle) : Prop := ∀ (X : Cx) (C : Fr) (o : Oper) (r : ROp), X.P = P → X.φ = φ → opP X o = some r → OpOK X C orc o r

theorem Exit.then_post {φ : Phi} {K : Act → World → Prop} {Q : Exit → Act → World → Prop} {e : Ex} {σ : State} (h1 : e = .normal → ∀ a w, HasInv φ C σ a w → K a w) (h2 : e ≠ .normal → ∀ a w, HasInv φ C σ a w → Q e.to a w) :
    ∀ x a w, Post φ C e σ x a w → Exit.then K Q x a w := by
  intro x a w h
  obtain ⟨rfl, h⟩ := h
  · cases e with
    | normal => exact h1 rfl a w h
    | exit id => exact h2 (by simp) a w h
    | ret => exact h2 (by simp) a w h

theorem code_sound {orc : Oracle} (hs : Sound X.P X.φ orc) (hop : OpsOK X.P X.φ orc) {b : Nat} (hgh : ghIn b C) : ∀ (c : Code) (blk : Nat) (rc : RCode) (σ : State) (a : Act) (w : World) (e : Ex) (σ' : State),
    codeP X b blk c = some rc → HasInv X.φ C σ a w → interp orc rc σ = some (e, σ') → c.wp X.P (Post X.φ C e σ') a w := by
  intro c
  induction c with
  | skip =>
    intro blk rc σ a w e σ' hc hi hr
    simp only [codeP, Option.some.injEq] at hc
    subst hc
    simp only [interp, Option.some.injEq, Prod.mk.injEq] at hr
    obtain ⟨rfl, rfl⟩ := hr
    exact wp_skip (⟨rfl, hi⟩)
  | ret =>
    intro blk rc σ a w e σ' hc hi hr
    simp only [codeP, Option.some.injEq] at hc
    subst hc
    simp only [interp, Option.some.injEq, Prod.mk.injEq] at hr
    obtain ⟨rfl, rfl⟩ := hr
    exact wp_ret (⟨rfl, hi⟩)
  | exit id =>
    intro blk rc σ a w e σ' hc hi hr
    simp only [codeP, Option.some.injEq] at hc
    subst hc
    simp only [interp, Option.some.injEq, Prod.mk.injEq] at hr
    obtain ⟨rfl, rfl⟩ := hr
    exact wp_exit (⟨rfl, hi⟩)
  | seq x y ihx ihy =>
    intro blk rc σ a w e σ' hc hi hr
    simp only [codeP, Option.bind_eq_bind, Option.pure_def] at hc
    cases h1 : codeP X b blk x with
    | none => simp [h1] at hc
    | some rx =>
      cases h2 : codeP X b blk y with
      | none => simp [h1, h2] at hc
      | some ry =>
        simp only [h1, h2, Option.bind_some, Option.some.injEq] at hc
        subst hc
        simp only [interp] at hr
        refine wp_seq ?_
        split at hr
        · rename_i σ1 hx
          exact wp_mono (ihx blk rx σ a w _ _ h1 hi hx) (Exit.then_post (fun _ a1 w1 h => ihy blk ry σ1 a1 w1 e σ' h2 h hr) (fun h => absurd rfl h))
        · rename_i hne
          refine wp_mono (ihx blk rx σ a w _ _ h1 hi hr) (Exit.then_post (fun he => ?_) (fun _ a1 w1 h => ⟨rfl, h⟩))
          subst he
          exact absurd hr (hne σ')
  | cond x p q ihp ihq =>
    intro blk rc σ a w e σ' hc hi hr
    simp only [codeP, Option.bind_eq_bind, Option.pure_def] at hc
    cases h0 : opnd X x with
    | none => simp [h0] at hc
    | some y =>
      cases h1 : codeP X b blk p with
      | none => simp [h0, h1] at hc
      | some rp =>
        cases h2 : codeP X b blk q with
        | none => simp [h0, h1, h2] at hc
        | some rq =>
          simp only [h0, h1, h2, Option.bind_some, Option.some.injEq] at hc
          subst hc
          simp only [interp] at hr
          obtain ⟨θ, μ, hinv⟩ := hi
          have hv := hinv.ev rfl h0
          split at hr
          · rename_i hb
            rw [hb] at hv
            exact wp_cond_true hv.bool_inv (ihp blk rp σ a w e σ' h1 ⟨θ, μ, hinv⟩ hr)
          · rename_i hb
            rw [hb] at hv
            exact wp_cond_false hv.bool_inv (ihq blk rq σ a w e σ' h2 ⟨θ, μ, hinv⟩ hr)
          · cases hr
  | block id x ih =>
    intro blk rc σ a w e σ' hc hi hr
    simp only [codeP, Option.bind_eq_bind, Option.pure_def] at hc
    cases h1 : codeP X b id x with
    | none => simp [h1] at hc
    | some rx =>
      simp only [h1, Option.bind_some, Option.some.injEq] at hc
      subst hc
      simp only [interp] at hr
      refine wp_block ?_
      split at hr
      · rename_i id' σ1 hx
        refine wp_mono (ih id rx σ a w _ _ h1 hi hx) fun y a1 w1 hp => ?_
        obtain ⟨rfl, hp⟩ := hp
        · simp only [Ex.to, Exit.inBlock]
          split at hr
          · rename_i hid
            simp only [Option.some.injEq, Prod.mk.injEq] at hr
            obtain ⟨rfl, rfl⟩ := hr
            rw [if_pos hid]
            exact ⟨rfl, hp⟩
          · rename_i hid
            simp only [Option.some.injEq, Prod.mk.injEq] at hr
            obtain ⟨rfl, rfl⟩ := hr
            rw [if_neg hid]
            exact ⟨rfl, hp⟩
      · rename_i hne
        refine wp_mono (ih id rx σ a w _ _ h1 hi hr) fun y a1 w1 hp => ?_
        obtain ⟨rfl, hp⟩ := hp
        · cases e with
          | normal => exact ⟨rfl, hp⟩
          | ret => exact ⟨rfl, hp⟩
          | exit id' => exact absurd hr (hne id' σ')
  | loop x ih =>
    intro blk rc σ a w e σ' hc hi hr
    simp only [codeP, Option.bind_eq_bind, Option.pure_def] at hc
    cases h1 : codeP X b blk x with
    | none => simp [h1] at hc
    | some rx =>
      simp only [h1, Option.bind_some, Option.some.injEq] at hc
      subst hc
      simp only [interp] at hr
      split at hr
      · rename_i e1 σ1 ho
        simp only [Option.some.injEq, Prod.mk.injEq] at hr
        obtain ⟨rfl, rfl⟩ := hr
        refine wp_of_LoopWp (hs.loop _ _ _ _ _ ho X C b blk x a w rfl rfl h1 ?_ hgh hi)
        cases (X.h.loops.lookup blk) with
        | none => exact .inl rfl
        | some l => exact .inr ⟨l.1, l.2, rfl⟩
      · cases hr
  | region id ops draw =>
    intro blk rc σ a w e σ' hc hi hr
    simp only [codeP, Option.bind_eq_bind, Option.pure_def] at hc
    cases h1 : ops.toList.mapM (insP X ops) with
    | none => simp [h1] at hc
    | some is =>
      simp only [h1, Option.bind_some] at hc
      obtain ⟨m1, _⟩ := mapM_get h1
      have hopj : ∀ (j : Nat) (o : Oper) (r : ROp), ops[j]? = some o → opP X o = some r → OpOK X C orc o r := fun j o r _ hr => hop X C o r rfl rfl hr
      cases draw with
      | false =>
        simp only [Bool.false_eq_true, if_false, Option.some.injEq] at hc
        subst hc
        simp only [interp, Option.map_eq_some_iff, Prod.mk.injEq] at hr
        obtain ⟨σ1, hr, rfl, rfl⟩ := hr
        obtain ⟨r1, _⟩ := runIns_runs (is := is) is 0 σ σ1 (fun j => by rw [Nat.zero_add]) hr
        rw [← List.range_eq_range', m1, Array.length_toList] at r1
        exact wp_region (ops_sound h1 hopj (fun a' w' h => ⟨rfl, h⟩) _ σ a w hi r1)
      | true =>
        simp only [if_true] at hc
        cases hd : drawn ops with
        | true =>
          simp only [hd, guard, if_true, Option.pure_def, Option.bind_some, Option.some.injEq] at hc
          subst hc
          simp only [interp] at hr
          split at hr
          · rename_i σ1 hrun
            split at hr
            · rename_i hdr
              simp only [Option.some.injEq, Prod.mk.injEq] at hr
              obtain ⟨rfl, rfl⟩ := hr
              obtain ⟨r1, r2⟩ := runIns_runs (is := is) is 0 σ σ1 (fun j => by rw [Nat.zero_add]) hrun
              rw [← List.range_eq_range', m1, Array.length_toList] at r1
              refine wp_region_draw fun t => ?_
              obtain ⟨p1, p2⟩ := drawn_spec hd (X.P.follows .mixedOrders) t
              obtain ⟨θ, μ, hinv⟩ := hi
              refine ops_sound h1 hopj (F := fun j => (runFoot orc is σ).getD (j - 0) ([], [])) (fun a' w' h => ⟨rfl, h⟩) _ σ a _ ⟨θ, μ, hinv.drawn _⟩ ?_
              refine r1.perm (ord := fun x y => ((Region.before ops).getD y 0).testBit x = true) p1.symm p2 ?_
              rw [List.pairwise_iff_getElem]
              intro i j hi hj hij
              simp only [List.length_range] at hi hj
              simp only [List.getElem_range, Nat.sub_zero]
              have := drawOk_spec hdr i j hij (by rw [r2, m1, Array.length_toList]; exact hj)
              rw [List.getD_eq_getElem?_getD, Array.getElem?_toList] at this
              simpa [Array.getD_eq_getD_getElem?] using this
            · cases hr
          · cases hr
        | false =>
          simp only [hd, guard, Bool.false_eq_true, if_false] at hc
          cases hc
  | refuse _ => intro blk rc σ a w e σ' hc; simp [codeP] at hc
  | rangeFunc _ _ _ _ _ _ => intro blk rc σ a w e σ' hc; simp [codeP] at hc
  | scope _ _ => intro blk rc σ a w e σ' hc; simp [codeP] at hc
  | label _ => intro blk rc σ a w e σ' hc; simp [codeP] at hc
  | goto _ => intro blk rc σ a w e σ' hc; simp [codeP] at hc
end
end Go.Vm
/- The machine's answers hold of the program. -/
namespace Go.Vm

section
variable {P : Program} {φ : Phi}

theorem resP_ok {X : Cx} {r : ResultVar} {t : TypeId} {q : RRes × Shape} (h : resP X r t = some q) : ResOK X.P r q.1 := by
  unfold resP at h
  cases r with
  | tmp n =>
    simp only [Option.pure_def, Option.some.injEq] at h
    subst h
    rfl
  | cell a t' =>
    simp only [Option.bind_eq_bind, Option.pure_def] at h
    cases hs : okSize X.P t' with
    | true =>
      simp only [hs, guard, if_true, Option.pure_def, Option.bind_some, Option.some.injEq] at h
      subst h
      exact ⟨rfl, hs, rfl, rfl⟩
    | false =>
      simp only [hs, guard, Bool.false_eq_true, if_false] at h
      cases h

structure FuncOK (X : Cx) (fn : Func) (F : RFunc) : Prop where
  np : F.np = fn.params.size + fn.nfree
  nt : F.nt = fn.ntmps
  code : ∃ c, fn.body = some c ∧ codeP X (64 * F.np) 0 c = some F.body
  res : F.res.length = fn.results.size
  each : ∀ (j : Nat) (r : ResultVar) (q : RRes × Shape), fn.results[j]? = some r → F.res[j]? = some q → ResOK X.P r q.1

theorem funcP_ok {X : Cx} {fn : Func} {F : RFunc} (h : funcP X fn = some F) : FuncOK X fn F := by
  unfold funcP at h
  simp only [Option.bind_eq_bind, Option.pure_def] at h
  cases hb : fn.body with
  | none => simp [hb] at h
  | some c =>
    simp only [hb, Option.bind_some] at h
    cases hc : codeP X (64 * (fn.params.size + fn.nfree)) 0 c with
    | none => simp [hc] at h
    | some rc =>
      simp only [hc, Option.bind_some] at h
      cases hr : (fn.results.toList.zip fn.resultTypes.toList).mapM (fun x => resP X x.1 x.2) with
      | none => rw [hr] at h; simp at h
      | some rs =>
        rw [hr] at h
        simp only [Option.bind_some] at h
        by_cases hsz : fn.results.size = fn.resultTypes.size
        · simp only [hsz, beq_self_eq_true, guard, if_true, Option.pure_def, Option.bind_some, Option.some.injEq] at h
          subst h
          obtain ⟨m1, m2⟩ := mapM_get hr
          refine ⟨rfl, rfl, ⟨c, hb, hc⟩, by simp [m1, hsz], fun j r q hj hq => ?_⟩
          have hj' : j < fn.resultTypes.size := by rw [← hsz]; exact (Array.getElem?_eq_some_iff.1 hj).1
          obtain ⟨y, g1, g2⟩ := m2 j (r, fn.resultTypes[j]) (by
            rw [List.getElem?_zip_eq_some]
            exact ⟨by simpa using hj, by simp [hj']⟩)
          simp only at hq
          rw [hq] at g1
          cases g1
          exact resP_ok g2
        · have : (fn.results.size == fn.resultTypes.size) = false := by simpa using hsz
          simp only [this, guard, Bool.false_eq_true, if_false] at h
          cases h

theorem callFn_sound {orc : Oracle} (hs : Sound P φ orc) (hop : OpsOK P φ orc) {X : Cx} (hP : X.P = P) (hφ : X.φ = φ) {f : FuncId} {fn : Func} {F : RFunc} (hf : P.funcs[f]? = some fn) (hF : FuncOK X fn F)
    {args : List AV} {r : Res} (hr : callFn orc F args = some r) {vals : List Value} {w : World} {μ : Mem} {Ls : List (List Reg)} (ha : ArgsOK φ μ w args vals Ls) (hap : Ls.flatten.Pairwise Reg.Apart) (hok : ∀ q ∈ Ls.flatten, RegOK μ w q)
    (hsub : ∀ b k v, μ b k = some v → w.cell? ⟨b, k, none⟩ = some v) :
    Calls P f vals.toArray w fun
      | .returned v, w' => Left φ μ w Ls.flatten vals r v w'
      | .outgrown, _ => False
      | .panicked _, _ => False := by
  subst hP hφ
  unfold callFn at hr
  split at hr
  · rename_i hlen
    cases he : entry F.nt args with
    | none => simp [he] at hr
    | some σ0 =>
      simp only [he] at hr
      obtain ⟨gh, θ, hinv, hgh, hgi⟩ := entry_inv ha hap hok hsub he
      obtain ⟨c, hb, hc⟩ := hF.code
      refine calls_of_wp hf hb ?_
      have hgin : ghIn (64 * F.np) ⟨w, μ, Inside Ls.flatten, gh⟩ := fun p hp => by
        obtain ⟨t, h1, h2⟩ := hgi p hp
        exact ⟨t, h1, by rw [hlen.1] at h2; omega⟩
      rw [hF.nt] at hinv
      have fin : ∀ (e : Ex) (σ : State), interp orc F.body σ0 = some (e, σ) → (e = .normal ∨ e = .ret) → (finish F args).run σ = some r →
          c.wp X.P (bodyPost X.P fn fun
            | .returned v, w' => Left X.φ μ w Ls.flatten vals r v w'
            | .outgrown, _ => False
            | .panicked _, _ => False) { tmps := vals.toArray ++ Array.replicate (fn.ntmps - vals.toArray.size) undef, defers := [] } w := by
        intro e σ hi hn hfin
        have hw := code_sound hs hop hgin c 0 F.body σ0 _ w e σ hc ⟨θ, μ, hinv⟩ hi
        refine wp_mono hw fun x a w' hp => ?_
        obtain ⟨rfl, θ', μ', hinv'⟩ := hp
        · obtain ⟨v, h1, h2⟩ := finish_spec hinv' ha hgh hF.res hF.each hfin
          rcases hn with rfl | rfl
          · exact ⟨hinv'.defers, v, h1, h2⟩
          · exact ⟨hinv'.defers, v, h1, h2⟩
      split at hr
      · rename_i σ hi
        exact fin .normal σ hi (.inl rfl) hr
      · rename_i σ hi
        exact fin .ret σ hi (.inr rfl) hr
      · cases hr
  · cases hr

structure SysOK (P : Program) (φ : Phi) (S : Sys) : Prop where
  fn : ∀ (g : Nat) (F : RFunc), S.fn g = some F → ∀ f, φ f = some g → ∃ fn X, P.funcs[f]? = some fn ∧ X.P = P ∧ X.φ = φ ∧ FuncOK X fn F
  prim : ∀ (g : Nat) (p : List AV → Option Res), S.prim g = some p → ∀ args r, p args = some r → CallOK P φ g args r

theorem step_sound {S : Sys} (hS : SysOK P φ S) {orc : Oracle} (hs : Sound P φ orc) (hop : OpsOK P φ orc) : Sound P φ (S.step orc) where
  call g args r h := by
    simp only [Sys.step] at h
    cases hp : S.prim g with
    | some p =>
      simp only [hp, Option.map_eq_some_iff, Out.res.injEq] at h
      obtain ⟨r', h1, rfl⟩ := h
      exact hS.prim g p hp args r' h1
    | none =>
      simp only [hp] at h
      cases hF : S.fn g with
      | none => simp [hF] at h
      | some F =>
        simp only [hF, Option.map_eq_some_iff, Out.res.injEq] at h
        obtain ⟨r', h1, rfl⟩ := h
        intro f vals w μ Ls hg ha hap hok hsub
        obtain ⟨fn, X, k1, k2, k3, k4⟩ := hS.fn g F hF f hg
        exact callFn_sound hs hop k2 k3 k1 k4 h1 ha hap hok hsub
  loop lv ra σ e σ' h X C b blk c a w hP hφ hc hlv hgh hi := by
    subst hP hφ
    simp only [Sys.step] at h
    have hn : HasInv X.φ C (norm lv σ) a w := by
      obtain ⟨θ, μ, hi⟩ := hi
      rcases hlv with rfl | ⟨ts, ds, rfl⟩
      · exact ⟨θ, μ, hi⟩
      · exact ⟨θ, μ, hi.norm hgh⟩
    split at h
    · rename_i σ1 h1
      refine LoopWp.round (wp_mono (code_sound hs hop hgh c blk ra _ a w _ _ hc hn h1) (Exit.then_post (fun _ a1 w1 h2 => hs.loop lv ra σ1 e σ' h X C b blk c a1 w1 rfl rfl hc hlv hgh h2) (fun h => absurd rfl h)))
    · rename_i e1 σ1 hne h1
      simp only [Option.some.injEq, Out.st.injEq] at h
      obtain ⟨rfl, rfl⟩ := h
      refine LoopWp.round (wp_mono (code_sound hs hop hgh c blk ra _ a w _ _ hc hn h1) (Exit.then_post (fun he => ?_) (fun _ a1 w1 h2 => ⟨rfl, h2⟩)))
      exact absurd he hne
    · cases h

theorem runN_sound {S : Sys} (hS : SysOK P φ S) (hop : ∀ orc, Sound P φ orc → OpsOK P φ orc) : ∀ n, Sound P φ (S.runN n)
  | 0 => ⟨fun _ _ _ h => (by cases h), fun _ _ _ _ _ h => (by cases h)⟩
  | n + 1 => step_sound hS (runN_sound hS hop n) (hop _ (runN_sound hS hop n))
end
end Go.Vm
/- Operations that call. -/
namespace Go.Vm

/-- The functions that have a number have code. -/
def PhiOK (P : Program) (φ : Phi) : Prop := ∀ f g, φ f = some g → ∃ fn, P.funcs[f]? = some fn ∧ fn.body.isSome = true ∧ fn.name ≠ "runtime.NumGoroutine"

theorem run_callFunc {P : Program} {φ : Phi} (h : PhiOK P φ) {f : FuncId} {g : Nat} (hg : φ f = some g) (args : Array Value) (w : World) : (callFunc f args).run P w = .ok (.enter f args) w := by
  obtain ⟨fn, h1, h2, h3⟩ := h f g hg
  have h4 : (fn.name == "runtime.NumGoroutine") = false := by simpa using h3
  have h5 : ¬ fn.body = none := by cases hb : fn.body <;> simp [hb] at h2 ⊢
  simp [callFunc, h1, h3, h5]

section
variable {X : Cx} {C : Fr} {orc : Oracle} {o : Oper}

theorem argP_x {g : Option Nat} {x : Operand} {t : Option TypeId} {i : Nat} {c : CArg} (h : argP X g x t i = some c) : opnd X x = some c.x := by
  unfold argP at h
  cases hx : opnd X x with
  | none => simp [hx] at h
  | some y =>
    simp only [hx] at h
    split at h
    · cases h; rfl
    · split at h
      · cases h; rfl
      · split at h <;> (cases h; rfl)

theorem args_of {xs : Array Operand} {g : Option Nat} {t : Nat → Option TypeId} {as : List CArg} (h : xs.toList.zipIdx.mapM (fun (x : Operand × Nat) => argP X g x.1 (t x.2) x.2) = some as) :
    (xs.map (Act.eval ⟨#[], []⟩)).toList.length = as.length ∧ ∀ (j : Nat) (c : CArg), as[j]? = some c → ∃ x, xs[j]? = some x ∧ opnd X x = some c.x := by
  obtain ⟨m1, m2⟩ := mapM_get h
  simp only [List.length_zipIdx] at m1
  refine ⟨by simp [m1], fun j c hc => ?_⟩
  have hj : j < xs.size := by
    have := (List.getElem?_eq_some_iff.1 hc).1
    simpa [m1] using this
  obtain ⟨y, g1, g2⟩ := m2 j (xs[j], j) (by simp [hj])
  rw [hc] at g1
  cases g1
  exact ⟨xs[j], Array.getElem?_eq_getElem hj, argP_x g2⟩

theorem Inv.argReps {φ : Phi} {θ : Slot → Reg} {μ : Mem} {σ : State} {a : Act} {w : World} (h : Inv φ C θ μ σ a w) (hX : X.φ = φ) {xs : Array Operand} {as : List CArg}
    (ha : ∀ (j : Nat) (c : CArg), as[j]? = some c → ∃ x, xs[j]? = some x ∧ opnd X x = some c.x) (j : Nat) (c : CArg) (v : Value) (hc : as[j]? = some c) (hv : (xs.map a.eval).toList[j]? = some v) : Rep φ μ (viewOf σ θ) (c.x.val σ) v := by
  obtain ⟨x, h1, h2⟩ := ha j c hc
  have : v = a.eval x := by
    rw [Array.getElem?_toList, Array.getElem?_map, h1] at hv
    simpa using hv.symm
  subst this
  exact h.ev hX h2

theorem upon_call {P : Program} {a : Act} {w : World} {f : FuncId} {args : Array Value} (he : (execOp a.eval o).run P w = .ok (.enter f args) w) {R : Value → World → Prop} (hc : Calls P f args w fun
      | .returned v, w' => R v w'
      | .outgrown, _ => False
      | .panicked _, _ => False) {next : Act → World → Prop} {Q : Exit → Act → World → Prop} (hn : ∀ v w', R v w' → next (a.put o.dst v) w') : o.wp P a w next Q := by
  unfold Oper.wp
  rw [he, Oper.upon_enter]
  refine hc.mono fun e w' h => ?_
  cases e with
  | returned v => exact hn v w' h
  | outgrown => exact h.elim
  | panicked c => exact h.elim

theorem ok_call (hs : Sound X.P X.φ orc) (hphi : PhiOK X.P X.φ) {c : Call} {f : FuncId} {g : Nat} {t : Nat → Option TypeId} {as : List CArg} (ho : o.op = .call c) (hcal : c.callee = .value (.func f)) (hg : X.φ f = some g)
    (has : c.args.toList.zipIdx.mapM (fun (x : Operand × Nat) => argP X (some g) x.1 (t x.2) x.2) = some as) : OpOK X C orc o (.call g as) := by
  intro θ μ σ a w v ws hi hr next Q hn
  simp only [ROp.sem, R.run_bind] at hr
  cases hss : (mapR sendR as).run σ with
  | none => simp [hss] at hr
  | some ss =>
    simp only [hss, Option.bind_some] at hr
    obtain ⟨l1, l2⟩ := args_of has
    have hcalls := callR_spec hi hg (hs.call g) (vs := (c.args.map a.eval).toList) (fun μ' hm hsh => hi.sends hm hss (by simpa using l1) (fun j c v hc hv => hi.argReps rfl l2 j c v hc hv) hsh) hr
    refine upon_call ?_ hcalls fun cv w' h => hn cv w' h
    have : execOp a.eval o = (do let d ← resolve a.eval c o.type; invoke d.target d.args) := by simp [execOp, ho]
    rw [this]
    simp [resolve, hcal, Act.eval, Deferred.ofValue, invoke, run_callFunc hphi hg]
    apply Array.ext'
    simp

theorem ok_callv (hs : Sound X.P X.φ orc) (hphi : PhiOK X.P X.φ) {c : Call} {x : Operand} {y : Opnd} {t : Nat → Option TypeId} {as : List CArg} (ho : o.op = .call c) (hcal : c.callee = .value x) (hx : opnd X x = some y)
    (has : c.args.toList.zipIdx.mapM (fun (x : Operand × Nat) => argP X none x.1 (t x.2) x.2) = some as) : OpOK X C orc o (.callv y as) := by
  intro θ μ σ a w v ws hi hr next Q hn
  simp only [ROp.sem, R.run_bind, Opnd.run_get, Option.bind_some] at hr
  have hv := hi.ev rfl hx
  split at hr
  · rename_i g first caps hfn
    rw [hfn] at hv
    obtain ⟨f, va, vc, hev, hg, hva, hvc, hfa, hfc⟩ := hv.fn_inv
    simp only [R.run_bind] at hr
    cases h1 : (mapR sendCap first).run σ with
    | none => simp [h1] at hr
    | some s1 =>
      simp only [h1, Option.bind_some] at hr
      cases h2 : (mapR sendR as).run σ with
      | none => simp [h2] at hr
      | some s2 =>
        simp only [h2, Option.bind_some] at hr
        cases h3 : (mapR sendCap caps).run σ with
        | none => simp [h3] at hr
        | some s3 =>
          simp only [h3, Option.bind_some] at hr
          obtain ⟨l1, l2⟩ := args_of has
          have hcalls := callR_spec hi hg (hs.call g) (vs := va.toList ++ (c.args.map a.eval).toList ++ vc.toList) (fun μ' hm hsh => by
            simp only [List.flatMap_append, List.mem_append] at hsh
            obtain ⟨L1, g1⟩ := hi.sendCs hm h1 (vs := va.toList) (by simpa using hva) (fun j x v hx hv => hfa j x v hx (by simpa using hv)) (fun d hd => hsh d (.inl (.inl hd)))
            obtain ⟨L2, g2⟩ := hi.sends hm h2 (vs := (c.args.map a.eval).toList) (by simpa using l1) (fun j c v hc hv => hi.argReps rfl l2 j c v hc hv) (fun d hd => hsh d (.inl (.inr hd)))
            obtain ⟨L3, g3⟩ := hi.sendCs hm h3 (vs := vc.toList) (by simpa using hvc) (fun j x v hx hv => hfc j x v hx (by simpa using hv)) (fun d hd => hsh d (.inr hd))
            exact ⟨_, (g1.append g2).append g3⟩) hr
          refine upon_call ?_ hcalls fun cv w' h => hn cv w' h
          have : execOp a.eval o = (do let d ← resolve a.eval c o.type; invoke d.target d.args) := by simp [execOp, ho]
          rw [this]
          simp [resolve, hcal, hev, Deferred.ofValue, invoke, run_callFunc hphi hg]
  · simp [R.run_fail] at hr
end
end Go.Vm
/- append, copy, a store. -/
namespace Go.Vm

section
variable {φ : Phi} {C : Fr} {θ : Slot → Reg} {μ : Mem} {σ : State} {a : Act} {w : World}

/-- A slice's object as a grid of what lies in the world. -/
theorem ObjOK.grid {V : View} {r : Reg} {z : Bool} {o : Obj} (h : ObjOK φ μ V w r z o) (hv : o.var = false) {lo ln : Nat} (hle : lo + ln ≤ o.xs.length) :
    ∃ U : Array Value, Grid φ μ o.e ((o.xs.drop lo).take ln) U ∧ ∀ k, k < U.size → w.cell? ⟨r.bl, r.off + lo * o.e + k, none⟩ = U[k]? := by
  have hlen : ((o.xs.drop lo).take ln).length = ln := by simp; omega
  have hsz : (lo + ln) * o.e ≤ r.n := Nat.le_trans (Nat.mul_le_mul_right _ (Nat.le_trans hle h.fit)) h.room
  have there : ∀ k, k < ln * o.e → ∃ v, w.cell? ⟨r.bl, r.off + lo * o.e + k, none⟩ = some v := by
    intro k hk
    have := h.there (lo * o.e + k) (by rw [Nat.add_mul] at hsz; omega)
    rw [← Nat.add_assoc] at this
    exact Option.isSome_iff_exists.1 this
  let U : Array Value := ((List.range (ln * o.e)).map fun k => (w.cell? ⟨r.bl, r.off + lo * o.e + k, none⟩).getD undef).toArray
  have hU : U.size = ln * o.e := by simp [U]
  have hget : ∀ k, k < ln * o.e → U[k]? = w.cell? ⟨r.bl, r.off + lo * o.e + k, none⟩ := by
    intro k hk
    obtain ⟨v, hv⟩ := there k hk
    simp only [U, List.getElem?_toArray, List.getElem?_map, List.getElem?_range hk, Option.map_some, hv, Option.getD_some]
  have idx : ∀ (i : Nat) (x : AV), ((o.xs.drop lo).take ln)[i]? = some x → o.xs[lo + i]? = some x ∧ i < ln := by
    intro i x hx
    rw [List.getElem?_take] at hx
    split at hx
    · rw [List.getElem?_drop] at hx; exact ⟨hx, by assumption⟩
    · cases hx
  refine ⟨U, ⟨by rw [hU, hlen], fun i x hx => ⟨h.size _ x (idx i x hx).1, h.one hv _ x (idx i x hx).1⟩, ?_⟩, fun k hk => (hget k (by omega)).symm⟩
  intro i j x c hx hc
  obtain ⟨hx', hi⟩ := idx i x hx
  have hj : j < x.cells.length := (List.getElem?_eq_some_iff.1 hc).1
  rw [h.size _ x hx'] at hj
  obtain ⟨v, g1, g2, g3, g4⟩ := h.cell (lo + i) j x c hx' hc
  refine ⟨v, ?_, g3 hv⟩
  have hlt : i * o.e + j < ln * o.e := by
    have := Nat.mul_le_mul_right o.e (show i + 1 ≤ ln by omega)
    rw [Nat.add_mul, Nat.one_mul] at this
    omega
  rw [hget _ hlt, ← g1]
  congr 2
  rw [Nat.add_mul]
  omega

/-- What is appended or copied. -/
theorem Inv.elems (h : Inv φ C θ μ σ a w) {e : Nat} {y : AV} {ys : List AV} {v : Value} (hr : (elems e y).run σ = some ys) (hv : Rep φ μ (viewOf σ θ) y v) :
    ∃ U : Array Value, Grid φ μ e ys U ∧ ((∃ b cap, v = .slice b ys.length cap ∧ (ys = [] ∨ ∃ bl off, b = some ⟨bl, off, none⟩ ∧ ∀ k, k < U.size → w.cell? ⟨bl, off + k, none⟩ = U[k]?)) ∨
      (e = 1 ∧ ∃ s : List UInt8, v = .string ⟨s.toArray⟩ ∧ ys.length = s.length ∧ U = (s.map fun b => Value.int .u8 b.toNat).toArray)) := by
  have empty : Grid φ μ e [] #[] := ⟨by simp, by simp, by simp⟩
  cases y with
  | nil =>
    simp only [Vm.elems, R.run_ret, Option.some.injEq] at hr
    subst hr
    exact ⟨#[], empty, .inl ⟨none, 0, hv.nil_inv, .inl rfl⟩⟩
  | emp =>
    simp only [Vm.elems, R.run_ret, Option.some.injEq] at hr
    subst hr
    obtain ⟨b, c, rfl⟩ := hv.emp_inv
    exact ⟨#[], empty, .inl ⟨_, c, rfl, .inl rfl⟩⟩
  | sl e' xs =>
    simp only [Vm.elems] at hr
    split at hr
    · rename_i he
      simp only [beq_iff_eq] at he
      subst he
      simp only [R.run_ret, Option.some.injEq] at hr
      subst hr
      cases hv.sl_inv with
      | slE e b cap => exact ⟨#[], empty, .inl ⟨b, cap, rfl, .inl rfl⟩⟩
      | sl e xs bl off cap f h1 h2 h3 h4 =>
        let U : Array Value := ((List.range (xs.length * e')).map fun k => f (k / e') (k % e')).toArray
        have hU : U.size = xs.length * e' := by simp [U]
        have hidx : ∀ i j, i < xs.length → j < e' → i * e' + j < xs.length * e' ∧ (i * e' + j) / e' = i ∧ (i * e' + j) % e' = j := by
          intro i j hi hj
          refine ⟨?_, ?_, ?_⟩
          · have := Nat.mul_le_mul_right e' (show i + 1 ≤ xs.length by omega)
            rw [Nat.add_mul, Nat.one_mul] at this
            omega
          · rw [Nat.add_comm, Nat.add_mul_div_right _ _ (by omega), Nat.div_eq_of_lt hj, Nat.zero_add]
          · rw [Nat.add_comm, Nat.add_mul_mod_self_right, Nat.mod_eq_of_lt hj]
        have hget : ∀ i j, i < xs.length → j < e' → U[i * e' + j]? = some (f i j) := by
          intro i j hi hj
          obtain ⟨q1, q2, q3⟩ := hidx i j hi hj
          simp only [U, List.getElem?_toArray, List.getElem?_map, List.getElem?_range q1, Option.map_some, q2, q3]
        refine ⟨U, ⟨hU, h2, fun i j x c hx hc => ?_⟩, .inl ⟨_, cap, rfl, .inr ⟨bl, off, rfl, fun k hk => ?_⟩⟩⟩
        · have hi : i < xs.length := (List.getElem?_eq_some_iff.1 hx).1
          have hj : j < x.cells.length := (List.getElem?_eq_some_iff.1 hc).1
          rw [(h2 i x hx).1] at hj
          exact ⟨f i j, hget i j hi hj, h4 i j x c hx hc⟩
        · rw [hU] at hk
          have he : 0 < e' := by
            rcases Nat.eq_zero_or_pos e' with h0 | h0
            · subst h0; simp at hk
            · exact h0
          have hi : k / e' < xs.length := Nat.div_lt_of_lt_mul (by rw [Nat.mul_comm]; exact hk)
          have hj : k % e' < e' := Nat.mod_lt _ he
          have hk' : k = k / e' * e' + k % e' := by rw [Nat.mul_comm]; exact (Nat.div_add_mod k e').symm
          have hx := List.getElem?_eq_getElem hi
          have hj' : k % e' < xs[k / e'].cells.length := by rw [(h2 _ _ hx).1]; exact hj
          have := h.sub _ _ _ (h3 (k / e') (k % e') _ _ hx (List.getElem?_eq_getElem hj'))
          rw [hk', hget _ _ hi hj, ← this]
          congr 2
          omega
    · simp [R.run_fail] at hr
  | sref d st lo ln =>
    simp only [Vm.elems, R.run_bind] at hr
    cases hob : (theObj d st).run σ with
    | none => simp [hob] at hr
    | some ob =>
      simp only [hob, Option.bind_some] at hr
      split at hr
      · rename_i hc
        simp only [Bool.and_eq_true, beq_iff_eq, Bool.not_eq_true', decide_eq_true_eq] at hc
        obtain ⟨⟨he, hvar⟩, hle⟩ := hc
        simp only [R.run_ret, Option.some.injEq] at hr
        subst hr
        have hd := run_theObj.1 hob
        have hok := h.obj d ob (by rw [hd])
        obtain ⟨b, cap, rfl, h1, h2, h3, h4⟩ := hv.sref_inv (viewOf_live hd)
        obtain ⟨U, g1, g2⟩ := hok.grid hvar hle
        have hlen : ((ob.xs.drop lo).take ln).length = ln := by simp; omega
        rw [he] at g1 g2
        refine ⟨U, g1, .inl ⟨b, cap, by rw [hlen], ?_⟩⟩
        by_cases hz : ln = 0
        · left; subst hz; simp
        · right
          refine ⟨_, _, h4 (by omega), fun k hk => ?_⟩
          rw [hok.e, he]
          exact g2 k hk
      · simp [R.run_fail] at hr
  | str s =>
    simp only [Vm.elems] at hr
    split at hr
    · rename_i he
      simp only [beq_iff_eq] at he
      subst he
      simp only [R.run_ret, Option.some.injEq] at hr
      subst hr
      refine ⟨_, ⟨by simp, ?_, ?_⟩, .inr ⟨rfl, s, hv.str_inv, by simp, rfl⟩⟩
      · intro i x hx
        simp only [List.getElem?_map, Option.map_eq_some_iff] at hx
        obtain ⟨b, _, rfl⟩ := hx
        exact ⟨rfl, rfl⟩
      · intro i j x c hx hc
        simp only [List.getElem?_map, Option.map_eq_some_iff] at hx
        obtain ⟨b, hb, rfl⟩ := hx
        cases j with
        | zero =>
          simp [AV.cells] at hc
          subst hc
          exact ⟨.int .u8 b.toNat, by simp [hb], .int _ _⟩
        | succ j => simp [AV.cells] at hc
    · simp [R.run_fail] at hr
  | _ => simp [Vm.elems, R.run_fail] at hr

/-- .. as the program reads it. -/
theorem run_src {P : Program} {e : Nat} {ys : List AV} {U : Array Value} {v : Value} (hg : Grid φ μ e ys U)
    (hv : (∃ b cap, v = .slice b ys.length cap ∧ (ys = [] ∨ ∃ bl off, b = some ⟨bl, off, none⟩ ∧ ∀ k, k < U.size → w.cell? ⟨bl, off + k, none⟩ = U[k]?)) ∨
      (e = 1 ∧ ∃ s : List UInt8, v = .string ⟨s.toArray⟩ ∧ ys.length = s.length ∧ U = (s.map fun b => Value.int .u8 b.toNat).toArray)) :
    (∀ w', (Builtin.lenOf v).run P w' = .ok ys.length w') ∧ ∀ w' : World, w'.heap = w.heap → (Builtin.firstCells e ys.length v).run P w' = .ok U w' := by
  rcases hv with ⟨b, cap, rfl, hb⟩ | ⟨rfl, s, rfl, hl, rfl⟩
  · refine ⟨fun w' => by simp [Builtin.lenOf], fun w' hw => ?_⟩
    rcases hb with rfl | ⟨bl, off, rfl, hcell⟩
    · have hU : U = #[] := Array.eq_empty_of_size_eq_zero (by have := hg.size; simpa using this)
      subst hU
      cases b with
      | none => simp [Builtin.firstCells]
      | some ad => simp [Builtin.firstCells, loadCells, loadCellsFrom]
    · have hsz := hg.size
      have hl := run_loadCells_list (P := P) w' ⟨bl, off, none⟩ U.toList (fun j u hu => by
        have hj : j < U.size := by
          have := (List.getElem?_eq_some_iff.1 hu).1
          simpa using this
        rw [Addr.add_mid]
        have h1 : w'.cell? ⟨bl, off + j, none⟩ = w.cell? ⟨bl, off + j, none⟩ := by simp [World.cell?, hw]
        rw [h1, hcell j hj]
        simpa using hu)
      simp only [Builtin.firstCells]
      rw [← hsz]
      simpa using hl
  · have hz : (⟨s.toArray⟩ : ByteArray).size = s.length := by show s.toArray.size = _; simp
    refine ⟨fun w' => by simp [Builtin.lenOf, hz, hl], fun w' hw => ?_⟩
    have hx : (⟨s.toArray⟩ : ByteArray).extract 0 ys.length = ⟨s.toArray⟩ := by
      rw [hl, ByteArray.extract_mk]
      simp
    simp only [Builtin.firstCells, hx]
    simp

/-- append where there is room. -/
theorem run_append_room' {P : Program} {t u ty e : TypeId} {i : TypeInfo} (ht : P.underlying t = some (.slice e)) (hu : P.underlying u = some .string ∨ ∃ e', P.underlying u = some (.slice e')) (hi : P.info? e = some i)
    (b : Option Addr) (ln cap n : Nat) (src : Value) (U : Array Value) (hlen : ∀ w', (Builtin.lenOf src).run P w' = .ok n w') (hcells : ∀ w' : World, w'.heap = w.heap → (Builtin.firstCells i.size n src).run P w' = .ok U w')
    (hfit : ln + n ≤ cap) (bl off : Nat) (hb : cap ≠ 0 → b = some ⟨bl, off, none⟩) (hUn : n = 0 → U = #[])
    (hc : ∀ j, j < U.size → (w.cell? ⟨bl, off + ln * i.size + j, none⟩).isSome = true) (hf : ∀ j, j < U.size → w.frozen? ⟨bl, off + ln * i.size + j, none⟩ = false) (h1 : ∀ v ∈ U.toList, v.oneCell' = true) :
    (Builtin.append_ #[t, u] ty #[.slice b ln cap, src]).run P w = .ok (.slice b (ln + n) cap) (w.setCells bl (off + ln * i.size) U.toList) := by
  have store : (match b with | some a => storeCells (a.add (ln * i.size)) U.toList | none => pure ()).run P w = .ok () (w.setCells bl (off + ln * i.size) U.toList) := by
    by_cases h0 : cap = 0
    · have hn : n = 0 := by omega
      rw [hUn hn]
      cases b with
      | none => rfl
      | some ad => rfl
    · rw [hb h0]
      simp only [Addr.add_mid]
      have := run_storeCells_cells (P := P) bl (off + ln * i.size) U.toList 0 w (fun j hj => by simpa using hc j (by simpa using hj)) (fun j hj => by simpa using hf j (by simpa using hj)) h1
      simpa using this
  rcases hu with hu | ⟨e', hu⟩
  · simp only [Builtin.append_]
    simp [run_underlying ht, run_underlying hu, sizeOf, typeInfo, hi, hlen, hcells w rfl, hfit]
    cases b with
    | none => simpa using congrArg (fun r => r.andThen fun _ w' => Result.ok (Value.slice none (ln + n) cap) w') store
    | some ad => simpa using congrArg (fun r => r.andThen fun _ w' => Result.ok (Value.slice (some ad) (ln + n) cap) w') store
  · simp only [Builtin.append_]
    simp [run_underlying ht, run_underlying hu, sizeOf, typeInfo, hi, hlen, hcells w rfl, hfit]
    cases b with
    | none => simpa using congrArg (fun r => r.andThen fun _ w' => Result.ok (Value.slice none (ln + n) cap) w') store
    | some ad => simpa using congrArg (fun r => r.andThen fun _ w' => Result.ok (Value.slice (some ad) (ln + n) cap) w') store
end
end Go.Vm
/- append: the operation. -/
namespace Go.Vm

section
variable {φ : Phi} {C : Fr} {θ : Slot → Reg} {μ : Mem} {σ : State} {a : Act} {w : World}

theorem run_append_new' {P : Program} {t u ty e : TypeId} {i : TypeInfo} {z : Value} (ht : P.underlying t = some (.slice e)) (hu : P.underlying u = some .string ∨ ∃ e', P.underlying u = some (.slice e')) (hi : P.info? e = some i) (hz : i.zero = some z)
    (b : Option Addr) (ln cap n : Nat) (src : Value) (O U : Array Value) (hlen : ∀ w', (Builtin.lenOf src).run P w' = .ok n w') (hcells : ∀ w' : World, w'.heap = w.heap → (Builtin.firstCells i.size n src).run P w' = .ok U w')
    (hold : ∀ w' : World, w'.heap = w.heap → (Builtin.firstCells i.size ln (.slice b ln cap)).run P w' = .ok O w')
    (hgt : cap < ln + n) (hbytes : 0 < i.bytes) (hle : (ln + n) * i.bytes ≤ 140737488355328) :
    ∃ c, ln + n ≤ c ∧ (Builtin.append_ #[t, u] ty #[.slice b ln cap, src]).run P w = .ok (.slice (some ⟨w.heap.size, 0, none⟩) (ln + n) c) (w.drew.alloc (.cells (O ++ U ++ Builtin.zeroCells z.cells (c - (ln + n))) e)) := by
  have hnle : ¬ ln + n ≤ cap := by omega
  have hgl := growslice_fits (old := cap) (need := ln + n) (bytes := i.bytes) hgt hle
  have hg' : ¬ (281474976710656 < Builtin.nextslicecap (ln + n) cap * i.bytes) := by omega
  have hb0 : ¬ i.bytes = 0 := by omega
  refine ⟨grownCap w (ln + n) cap e, grownCap_ge w (ln + n) cap e, ?_⟩
  rcases hu with hu | ⟨e', hu⟩
  · simp only [Builtin.append_]
    simp [run_underlying ht, run_underlying hu, sizeOf, typeInfo, zeroValue, hi, hz, hlen, hnle, hg', hb0, Question.forced, hold w.drew rfl, hcells w.drew rfl, newRow, grownCap]
  · simp only [Builtin.append_]
    simp [run_underlying ht, run_underlying hu, sizeOf, typeInfo, zeroValue, hi, hz, hlen, hnle, hg', hb0, Question.forced, hold w.drew rfl, hcells w.drew rfl, newRow, grownCap]

theorem Grid.append {e : Nat} {xs ys : List AV} {A B : Array Value} (hA : Grid φ μ e xs A) (hB : Grid φ μ e ys B) : Grid φ μ e (xs ++ ys) (A ++ B) := by
  refine ⟨by simp [hA.size, hB.size, Nat.add_mul], ?_, ?_⟩
  · intro i x hx
    rw [List.getElem?_append] at hx
    split at hx
    · exact hA.cells i x hx
    · exact hB.cells _ x hx
  · intro i j x c hx hc
    rw [List.getElem?_append] at hx
    rw [Array.getElem?_append]
    split at hx
    · rename_i hi
      have hj : j < x.cells.length := (List.getElem?_eq_some_iff.1 hc).1
      rw [(hA.cells i x hx).1] at hj
      have : i * e + j < A.size := by
        rw [hA.size]
        have := Nat.mul_le_mul_right e (show i + 1 ≤ xs.length by omega)
        rw [Nat.add_mul, Nat.one_mul] at this
        omega
      rw [if_pos this]
      exact hA.val i j x c hx hc
    · rename_i hi
      have hge : ¬ i * e + j < A.size := by
        rw [hA.size]
        have := Nat.mul_le_mul_right e (show xs.length ≤ i by omega)
        omega
      rw [if_neg hge, hA.size]
      have := hB.val (i - xs.length) j x c hx hc
      rw [Nat.sub_mul] at this
      have hle := Nat.mul_le_mul_right e (show xs.length ≤ i by omega)
      rw [show i * e + j - xs.length * e = i * e - xs.length * e + j by omega]
      exact this

theorem Grid.one {e : Nat} {xs : List AV} {A : Array Value} (h : Grid φ μ e xs A) (he : 0 < e) : ∀ v ∈ A.toList, v.oneCell' = true := by
  intro v hv
  obtain ⟨k, hk, rfl⟩ := List.mem_iff_getElem.1 hv
  have hk' : k < A.size := by simpa using hk
  rw [h.size] at hk'
  have hi : k / e < xs.length := Nat.div_lt_of_lt_mul (by rw [Nat.mul_comm]; exact hk')
  have hj : k % e < e := Nat.mod_lt _ he
  have hx := List.getElem?_eq_getElem hi
  obtain ⟨c1, c2⟩ := h.cells _ _ hx
  have hj' : k % e < xs[k / e].cells.length := by rw [c1]; exact hj
  have hc := List.getElem?_eq_getElem hj'
  obtain ⟨u, g1, g2⟩ := h.val _ _ _ _ hx hc
  have hk2 : k / e * e + k % e = k := by rw [Nat.mul_comm]; exact Nat.div_add_mod k e
  rw [hk2] at g1
  have : A.toList[k] = u := by
    have := Array.getElem?_eq_some_iff.1 g1
    simpa using this.2
  rw [this]
  refine g2.one ?_
  rw [List.all_eq_true] at c2
  exact c2 _ (List.mem_of_getElem? hc)

theorem size_zeroCells' (z : Array Value) (n : Nat) : (Builtin.zeroCells z n).size = n * z.size := by simp [Builtin.zeroCells]

/-- The new slice's cells with room behind them. -/
theorem Grid.pad {e : Nat} {xs : List AV} {A : Array Value} (h : Grid φ μ e xs A) (B : Array Value) : ∀ (i j : Nat) (x c : AV), xs[i]? = some x → x.cells[j]? = some c → ∃ v, (A ++ B)[i * e + j]? = some v ∧ RV φ μ c v := by
  intro i j x c hx hc
  obtain ⟨v, h1, h2⟩ := h.val i j x c hx hc
  refine ⟨v, ?_, h2⟩
  have hlt : i * e + j < A.size := (Array.getElem?_eq_some_iff.1 h1).1
  rw [Array.getElem?_append, if_pos hlt]
  exact h1

/-- A new object that is shut at once. -/
theorem Inv.shut_new (ns : Slot) (s : Nat) (o : Obj) (h : Inv φ C θ μ (σ.applyAll [.o ns ⟨s, some o⟩, .f ns false]) a w) (z : Bool) :
    ∃ μ', μ.Le μ' ∧ Inv φ C θ μ' (σ.applyAll [.o ns ⟨s, some o⟩, .f ns z]) a w := by
  cases z with
  | false => exact ⟨μ, Mem.Le.refl μ, h⟩
  | true =>
    obtain ⟨μ', h1, _, _, h2⟩ := h.freeze (σ' := (W.f ns true).apply (σ.applyAll [.o ns ⟨s, some o⟩, .f ns false])) ns s o (by rw [mk_O, if_pos rfl]) (fun _ => rfl) (by rw [len_apply]) (fun _ => rfl) (fun e => getF_f _ ns true e)
    refine ⟨μ', h1, h2.like ⟨?_, fun _ => rfl, fun _ => rfl, fun d => ?_⟩⟩
    · simp only [len_applyAll, len_apply]
    · rw [getF_f, mk_F, mk_F]
      by_cases hd : d = ns <;> simp [hd]

end

section
variable {X : Cx} {C : Fr} {o : Oper}

theorem sim_app {t u e : TypeId} {x y : Operand} {x' y' : Opnd} (ho : o.op = .call { callee := .builtin .append, args := #[x, y], argTypes := #[t, u] }) (hx : opnd X x = some x') (hy : opnd X y = some y')
    (ht : X.P.underlying t = some (.slice e)) (hu : X.P.underlying u = some .string ∨ ∃ e', X.P.underlying u = some (.slice e')) (hs : okSize X.P e = true) (hb : 0 < X.P.bytesOf e) (hz : (zeroP X.P e).isSome = true)
    (hzl : ∀ i zv, X.P.info? e = some i → i.zero = some zv → zv.cells.size = i.size) :
    Sim X C o (.app (X.P.cellsOf e) (X.P.bytesOf e) x' y') := by
  intro orc θ μ σ a w v ws hi hr
  simp only [ROp.sem, R.run_bind, Opnd.run_get, Option.bind_some] at hr
  have e1 := hi.ev rfl hx
  have e2 := hi.ev rfl hy
  obtain ⟨hpos, _, ie, hie, hisz⟩ := okSize_spec hs
  have hby : X.P.bytesOf e = ie.bytes := by simp [Program.bytesOf, hie]
  obtain ⟨zav, hzav⟩ := Option.isSome_iff_exists.1 hz
  obtain ⟨ie', zv, hie', hzero, _⟩ := zeroP_spec hzav
  rw [hie] at hie'
  cases hie'
  have hzs := hzl ie zv hie hzero
  have exec : ∀ (bv yv : Value) r, a.eval x = bv → a.eval y = yv → (Builtin.append_ #[t, u] o.type #[bv, yv]).run X.P w = r → (execOp a.eval o).run X.P w = r.andThen fun v w' => .ok (.value v) w' := by
    intro bv yv r h1 h2 h3
    simp only [execOp, ho, resolve, invoke, builtin, Sem.run_bind, Sem.run_pure, Result.andThen_ok, List.map_toArray, List.map_cons, List.map_nil, h1, h2, h3]
  cases hel : (Vm.elems (X.P.cellsOf e) (y'.val σ)).run σ with
  | none => simp [hel] at hr
  | some ys =>
    simp only [hel, Option.bind_some] at hr
    obtain ⟨U, hU, hsrc⟩ := hi.elems hel e2
    obtain ⟨s1, s2⟩ := run_src (P := X.P) hU hsrc
    have hUn : ys.length = 0 → U = #[] := fun h0 => Array.eq_empty_of_size_eq_zero (by rw [hU.size, h0]; simp)
    rw [← hisz] at s2
    split at hr
    · -- onto nil
      rename_i hnil
      rw [hnil] at e1
      split at hr
      · rename_i hle
        simp only [run_mk, List.nil_append, Option.some.injEq, Prod.mk.injEq] at hr
        obtain ⟨rfl, rfl⟩ := hr
        by_cases h0 : ys.length = 0
        · -- nothing: the nil slice comes back
          have hys : ys = [] := List.eq_nil_of_length_eq_zero h0
          subst hys
          have hrun := run_append_room' (P := X.P) (w := w) (ty := o.type) ht hu hie none 0 0 0 (a.eval y) U (by simpa using s1) (by simpa using s2) (Nat.le_refl _) 0 0 (fun h => absurd rfl h) (fun _ => hUn rfl)
            (fun j hj => by rw [hUn rfl] at hj; simp at hj) (fun j hj => by rw [hUn rfl] at hj; simp at hj) (fun v hv => by rw [hUn rfl] at hv; simp at hv)
          rw [hUn rfl] at hrun
          refine ⟨_, .slice none 0 0, w, by rw [exec _ _ _ e1.nil_inv rfl hrun]; rfl, .inl rfl, ?_⟩
          -- an object without cells
          have hren := hi.renew (σ' := σ.applyAll [.o (slot o.dst) ⟨(σ.getO (slot o.dst)).st + 1, some ⟨X.P.cellsOf e, [], false, 0⟩⟩, .f (slot o.dst) false]) (w' := w) (μ' := μ) none (slot o.dst) ⟨w.heap.size, 0, 0, X.P.cellsOf e, 0⟩ ⟨X.P.cellsOf e, [], false, 0⟩ false (fun _ _ => False)
            (fun n => rfl) (by rw [len_applyAll]) (fun d => by rw [mk_O]; simp) (fun d => mk_F _ _ _ _ d) (fun g hg => by cases hg) (Mem.Le.refl μ) (fun _ _ _ hm => .inl hm) (fun b k hb => by obtain ⟨_, h1, h2⟩ := hb; simp only at h1 h2; omega) (fun b k hb => hb.elim)
            (fun b k v _ hv => hv) (fun b k _ => rfl) hi.sub hi.frame (fun V' _ => ⟨rfl, hpos, rfl, by simp, by simp, by simp, by simp, by simp, fun k hk => by simp at hk, fun k hk => by simp at hk, fun k hk => by simp at hk⟩)
          refine ⟨_, μ, hren, ?_⟩
          exact .sref _ _ 0 0 _ none 0 (view_mk (by rw [mk_O, if_pos rfl])) (Nat.le_refl _) (by simp) (by simp) (fun h => absurd rfl h)
        · obtain ⟨c, hc, hrun⟩ := run_append_new' (P := X.P) (w := w) (ty := o.type) ht hu hie hzero none 0 0 ys.length (a.eval y) #[] U s1 s2 (fun w' _ => by simp [Builtin.firstCells]) (by omega) (by omega) (by rw [← hby]; simpa using hle)
          simp only [Nat.zero_add] at hc hrun
          obtain ⟨θ', μ', g1, g2⟩ := sim_newSlice (X := X) (w' := w.drew.alloc (.cells (#[] ++ U ++ Builtin.zeroCells zv.cells (c - ys.length)) e)) hi (slot o.dst) (σ.getO (slot o.dst)).st rfl (X.P.cellsOf e) ys ys.length ys.length
            (#[] ++ U ++ Builtin.zeroCells zv.cells (c - ys.length)) e (0, 0) c rfl rfl rfl rfl (fun k _ => by simp) hpos (Nat.le_refl _) hc
            (by simp only [Array.size_append, size_zeroCells', hU.size, hzs, hisz, List.size_toArray, List.length_nil, Nat.zero_add]; rw [← Nat.add_mul]; congr 1; omega) (Nat.le_refl _) hU.cells
            (by simpa using hU.pad (Builtin.zeroCells zv.cells (c - ys.length)))
          exact ⟨_, _, _, by rw [exec _ _ _ e1.nil_inv rfl hrun]; rfl, .inl rfl, θ', μ', g1, g2⟩
      · simp [R.run_fail] at hr
    · -- onto a slice of its own
      rename_i d st lo ln hsr
      rw [hsr] at e1
      simp only [R.run_bind] at hr
      cases hob : (theObj d st).run σ with
      | none => simp [hob] at hr
      | some ob =>
        simp only [hob, Option.bind_some, run_frz] at hr
        split at hr
        · rename_i hc
          simp only [Bool.and_eq_true, beq_iff_eq, Bool.not_eq_true', decide_eq_true_eq, Bool.or_eq_true] at hc
          obtain ⟨⟨⟨⟨he, hvar⟩, hle⟩, hzf⟩, hbytes⟩ := hc
          simp only [run_mk, Option.some.injEq, Prod.mk.injEq] at hr
          obtain ⟨rfl, rfl⟩ := hr
          have hd := run_theObj.1 hob
          have hok := hi.obj d ob (by rw [hd])
          have hlv := viewOf_live (θ := θ) hd
          obtain ⟨b, cap, hbv, h1, h2, h3, h4⟩ := e1.sref_inv hlv
          obtain ⟨O, hO, hOc⟩ := hok.grid hvar hle
          rw [he] at hO
          have hre : (θ d).e = X.P.cellsOf e := by rw [hok.e, he]
          rw [hre] at h2 h4
          rw [he] at hOc
          have hlen : ((ob.xs.drop lo).take ln).length = ln := by simp; omega
          have hOs : O.size = ln * X.P.cellsOf e := by rw [hO.size, hlen]
          have hgrid := hO.append hU
          have hall : ((ob.xs.drop lo).take ln ++ ys).length = ln + ys.length := by rw [List.length_append, hlen]
          -- the slots, whether or not the old one has the same name
          generalize hcp : max (ln + ys.length) (if lo + ln + ys.length ≤ ob.cap then ob.cap - lo else 0) = cp
          have hst' : ((σ.applyAll (if (d == slot o.dst) = true then [] else [W.o d ⟨st, none⟩])).getO (slot o.dst)).st = (σ.getO (slot o.dst)).st := by
            split
            · rfl
            · rename_i hne
              have hne' : slot o.dst ≠ d := fun h => hne (by simp [h])
              simp only [applyAll_cons, applyAll_nil, getO_o, if_neg hne']
          by_cases hroom : ln + ys.length ≤ cap
          · -- in place
            have hUsz : U.size = ys.length * X.P.cellsOf e := hU.size
            have hin : ∀ j, j < U.size → (θ d).Has (θ d).bl ((θ d).off + lo * X.P.cellsOf e + ln * X.P.cellsOf e + j) := by
              intro j hj
              have : (lo + ln + ys.length) * X.P.cellsOf e ≤ (θ d).n := Nat.le_trans (Nat.mul_le_mul_right _ (by omega)) h2
              rw [Nat.add_mul, Nat.add_mul] at this
              exact ⟨rfl, by omega, by omega⟩
            have hthere : ∀ j, j < U.size → (w.cell? ⟨(θ d).bl, (θ d).off + lo * X.P.cellsOf e + ln * X.P.cellsOf e + j, none⟩).isSome = true := by
              intro j hj
              obtain ⟨_, q1, q2⟩ := hin j hj
              have := hok.there (lo * X.P.cellsOf e + ln * X.P.cellsOf e + j) (by omega)
              rw [show (θ d).off + (lo * X.P.cellsOf e + ln * X.P.cellsOf e + j) = (θ d).off + lo * X.P.cellsOf e + ln * X.P.cellsOf e + j by omega] at this
              exact this
            have hsoft : ∀ j, j < U.size → w.frozen? ⟨(θ d).bl, (θ d).off + lo * X.P.cellsOf e + ln * X.P.cellsOf e + j, none⟩ = false := by
              intro j hj
              obtain ⟨_, q1, q2⟩ := hin j hj
              have := hok.soft (lo * X.P.cellsOf e + ln * X.P.cellsOf e + j) (by omega)
              rw [show (θ d).off + (lo * X.P.cellsOf e + ln * X.P.cellsOf e + j) = (θ d).off + lo * X.P.cellsOf e + ln * X.P.cellsOf e + j by omega] at this
              exact this
            have hrun := run_append_room' (P := X.P) (w := w) (ty := o.type) ht hu hie b ln cap ys.length (a.eval y) U s1 s2 hroom (θ d).bl ((θ d).off + lo * X.P.cellsOf e) h4 hUn
              (by rw [hisz]; exact hthere) (by rw [hisz]; exact hsoft) (hU.one hpos)
            rw [hisz] at hrun
            refine ⟨_, _, _, by rw [exec _ _ _ hbv rfl hrun]; rfl, .inl rfl, ?_⟩
            generalize hw' : w.setCells (θ d).bl ((θ d).off + lo * X.P.cellsOf e + ln * X.P.cellsOf e) U.toList = w'
            have wout : ∀ b k, ¬(b = (θ d).bl ∧ (θ d).off + lo * X.P.cellsOf e + ln * X.P.cellsOf e ≤ k ∧ k < (θ d).off + lo * X.P.cellsOf e + ln * X.P.cellsOf e + U.size) → w'.cell? ⟨b, k, none⟩ = w.cell? ⟨b, k, none⟩ := by
              intro b k hn
              rw [← hw']
              refine World.cell?_setCells_out _ _ _ _ _ (fun hb _ => ?_)
              simp only at hb
              simp only [Array.length_toList]
              omega
            have win : ∀ j, j < U.size → w'.cell? ⟨(θ d).bl, (θ d).off + lo * X.P.cellsOf e + ln * X.P.cellsOf e + j, none⟩ = U[j]? := by
              intro j hj
              rw [← hw', World.cell?_setCells_in _ _ _ _ (fun i hi => hthere i (by simpa using hi)) j (by simpa using hj)]
              simp [hj]
            have hwf : ∀ b k, w'.frozen? ⟨b, k, none⟩ = w.frozen? ⟨b, k, none⟩ := fun b k => by rw [← hw']; exact World.frozen?_setCells _ _ _ _ _
            have htot : (lo + ln + ys.length) * X.P.cellsOf e ≤ (θ d).n := Nat.le_trans (Nat.mul_le_mul_right _ (by omega)) h2
            -- the written cells are not among those known for good
            have hWμ : ∀ k, (θ d).off + lo * X.P.cellsOf e + ln * X.P.cellsOf e ≤ k → k < (θ d).off + lo * X.P.cellsOf e + ln * X.P.cellsOf e + U.size → μ (θ d).bl k = none := by
              intro k hk1 hk2
              have := hok.free (k - (θ d).off) (by rw [Nat.add_mul, Nat.add_mul] at htot; omega) (by
                rcases hzf with hzf | hzf
                · exact .inl hzf
                · right; rw [he, ← hzf, Nat.add_mul]; omega)
              rwa [show (θ d).off + (k - (θ d).off) = k by omega] at this
            classical
            let inn : Nat → Nat → Prop := fun b k => b = (θ d).bl ∧ (θ d).off + lo * X.P.cellsOf e ≤ k ∧ k < (θ d).off + lo * X.P.cellsOf e + (ln + ys.length) * X.P.cellsOf e
            let μ' : Mem := fun b k => if σ.getF d = true ∧ inn b k then w'.cell? ⟨b, k, none⟩ else μ b k
            have hsubw : ∀ b k v, μ b k = some v → w'.cell? ⟨b, k, none⟩ = some v := by
              intro b k v hm
              rw [wout b k (fun hw => by obtain ⟨rfl, h1, h2⟩ := hw; rw [hWμ k h1 h2] at hm; cases hm)]
              exact hi.sub b k v hm
            have hle' : μ.Le μ' := by
              intro b k v hm
              show (if σ.getF d = true ∧ inn b k then w'.cell? ⟨b, k, none⟩ else μ b k) = some v
              split
              · exact hsubw b k v hm
              · exact hm
            have hcellnew : ∀ (i j : Nat) (x c : AV), ((ob.xs.drop lo).take ln ++ ys)[i]? = some x → x.cells[j]? = some c → ∃ v, w'.cell? ⟨(θ d).bl, (θ d).off + lo * X.P.cellsOf e + i * X.P.cellsOf e + j, none⟩ = some v ∧ RV X.φ μ c v := by
              intro i j x c hx hc
              obtain ⟨v, q1, q2⟩ := hgrid.val i j x c hx hc
              refine ⟨v, ?_, q2⟩
              have hlt : i * X.P.cellsOf e + j < (O ++ U).size := (Array.getElem?_eq_some_iff.1 q1).1
              rw [Array.getElem?_append] at q1
              split at q1
              · rename_i hin1
                rw [wout _ _ (fun hw => by obtain ⟨_, h1, _⟩ := hw; rw [hOs] at hin1; omega), Nat.add_assoc, hOc _ hin1]
                exact q1
              · rename_i hin1
                rw [Array.size_append] at hlt
                have := win (i * X.P.cellsOf e + j - O.size) (by omega)
                rw [hOs] at this hin1 hlt q1
                rw [show (θ d).off + lo * X.P.cellsOf e + ln * X.P.cellsOf e + (i * X.P.cellsOf e + j - ln * X.P.cellsOf e) = (θ d).off + lo * X.P.cellsOf e + i * X.P.cellsOf e + j by omega] at this
                rw [this]
                exact q1
            have hloc : ∀ (i j : Nat) (x c : AV), ((ob.xs.drop lo).take ln ++ ys)[i]? = some x → x.cells[j]? = some c → inn (θ d).bl ((θ d).off + lo * X.P.cellsOf e + i * X.P.cellsOf e + j) := by
              intro i j x c hx hc
              have hi' : i < ((ob.xs.drop lo).take ln ++ ys).length := (List.getElem?_eq_some_iff.1 hx).1
              rw [hall] at hi'
              have hj : j < x.cells.length := (List.getElem?_eq_some_iff.1 hc).1
              rw [(hgrid.cells i x hx).1] at hj
              have := Nat.mul_le_mul_right (X.P.cellsOf e) (show i + 1 ≤ ln + ys.length by omega)
              rw [Nat.add_mul, Nat.one_mul] at this
              exact ⟨rfl, by omega, by omega⟩
            have hcapn : cap * X.P.cellsOf e + lo * X.P.cellsOf e ≤ (θ d).n := by rw [← Nat.add_mul, Nat.add_comm]; exact h2
            have hneed : (ln + ys.length) * X.P.cellsOf e ≤ cap * X.P.cellsOf e := Nat.mul_le_mul_right _ hroom
            have hren := hi.renew (σ' := (σ.applyAll (if (d == slot o.dst) = true then [] else [W.o d ⟨st, none⟩])).applyAll [.o (slot o.dst) ⟨(σ.getO (slot o.dst)).st + 1, some ⟨X.P.cellsOf e, (ob.xs.drop lo).take ln ++ ys, false, cp⟩⟩, .f (slot o.dst) (σ.getF d)]) (w' := w') (μ' := μ')
              (some d) (slot o.dst) ⟨(θ d).bl, (θ d).off + lo * X.P.cellsOf e, cap * X.P.cellsOf e, X.P.cellsOf e, cp⟩ ⟨X.P.cellsOf e, (ob.xs.drop lo).take ln ++ ys, false, cp⟩ (σ.getF d)
              (fun b k => b = (θ d).bl ∧ (θ d).off + lo * X.P.cellsOf e + ln * X.P.cellsOf e ≤ k ∧ k < (θ d).off + lo * X.P.cellsOf e + ln * X.P.cellsOf e + U.size)
              (fun n => by rw [mk_T]; split <;> rfl) (by rw [len_applyAll, len_applyAll])
              (fun f => by
                rw [mk_O]
                by_cases hf : f = slot o.dst
                · simp [hf]
                · rw [if_neg hf, if_neg hf]
                  split
                  · rename_i hds
                    have hds' : d = slot o.dst := by simpa using hds
                    rw [if_neg (by rw [hds']; simp; exact fun h => hf h.symm)]
                    rfl
                  · simp only [applyAll_cons, applyAll_nil, getO_o]
                    by_cases hfd : f = d
                    · subst hfd; simp [hd]
                    · rw [if_neg hfd, if_neg (by simp; exact fun h => hfd h.symm)])
              (fun f => by
                rw [mk_F]
                by_cases hf : f = slot o.dst
                · simp [hf]
                · rw [if_neg hf, if_neg hf]
                  split <;> rfl)
              (fun g hg => by cases hg; exact ⟨ob, by rw [hd]⟩) hle'
              (fun b k v hm => by
                change (if σ.getF d = true ∧ inn b k then w'.cell? ⟨b, k, none⟩ else μ b k) = some v at hm
                split at hm
                · rename_i hin1
                  obtain ⟨_, rfl, q1, q2⟩ := hin1
                  exact .inr ⟨rfl, q1, by simp only; omega⟩
                · exact .inl hm)
              (fun b k hb => by
                obtain ⟨rfl, q1, q2⟩ := hb
                simp only at q1 q2
                exact .inl ⟨d, rfl, rfl, by omega, by omega⟩)
              (fun b k hb => by
                obtain ⟨rfl, q1, q2⟩ := hb
                rw [Nat.add_mul, Nat.add_mul] at htot
                exact .inl ⟨d, rfl, rfl, by omega, by omega⟩)
              (fun b k v hn hv => by rw [wout b k hn]; exact hv)
              (fun b k _ => hwf b k)
              (fun b k v hm => by
                change (if σ.getF d = true ∧ inn b k then w'.cell? ⟨b, k, none⟩ else μ b k) = some v at hm
                split at hm
                · exact hm
                · exact hsubw b k v hm)
              (by
                rw [← hw']
                refine hi.frame.setCells _ _ _ (fun j hj => ?_)
                exact hi.mine d ob (by rw [hd]) _ _ (hin j (by simpa using hj)))
              (fun V' hV' => by
                refine ⟨rfl, hpos, rfl, ?_, ?_, fun i x hx => (hgrid.cells i x hx).1, fun _ i x hx => (hgrid.cells i x hx).2, ?_, ?_, ?_, ?_⟩
                · simp only; rw [hall, ← hcp]; omega
                · simp only
                  refine Nat.mul_le_mul_right _ ?_
                  rw [← hcp]
                  have := hok.cap
                  split <;> omega
                · intro i j x c hx hc
                  obtain ⟨v, q1, q2⟩ := hcellnew i j x c hx hc
                  refine ⟨v, q1, .val (q2.mono hle'), fun _ => q2.mono hle', fun hz => ?_⟩
                  show (if σ.getF d = true ∧ inn _ _ then w'.cell? ⟨_, _, none⟩ else μ _ _) = some v
                  rw [if_pos ⟨hz, hloc i j x c hx hc⟩]
                  exact q1
                · intro k hk
                  simp only at hk
                  have hold : (w.cell? ⟨(θ d).bl, (θ d).off + lo * X.P.cellsOf e + k, none⟩).isSome = true := by
                    have := hok.there (lo * X.P.cellsOf e + k) (by omega)
                    rwa [← Nat.add_assoc] at this
                  by_cases hw : (θ d).off + lo * X.P.cellsOf e + ln * X.P.cellsOf e ≤ (θ d).off + lo * X.P.cellsOf e + k ∧ (θ d).off + lo * X.P.cellsOf e + k < (θ d).off + lo * X.P.cellsOf e + ln * X.P.cellsOf e + U.size
                  · have := win (k - ln * X.P.cellsOf e) (by omega)
                    rw [show (θ d).off + lo * X.P.cellsOf e + ln * X.P.cellsOf e + (k - ln * X.P.cellsOf e) = (θ d).off + lo * X.P.cellsOf e + k by omega] at this
                    simp only
                    rw [this, Array.getElem?_eq_getElem (by omega)]
                    rfl
                  · simp only
                    rw [wout _ _ (fun h => hw h.2)]
                    exact hold
                · intro k hk
                  simp only at hk ⊢
                  rw [hwf]
                  have := hok.soft (lo * X.P.cellsOf e + k) (by omega)
                  rwa [← Nat.add_assoc] at this
                · intro k hk hz
                  simp only at hk hz ⊢
                  show (if σ.getF d = true ∧ inn _ _ then w'.cell? ⟨_, _, none⟩ else μ _ _) = none
                  rw [hall] at hz
                  rw [if_neg (fun h => by
                    rcases hz with hz | hz
                    · rw [hz] at h; exact absurd h.1 (by simp)
                    · have := h.2.2.2; omega)]
                  have := hok.free (lo * X.P.cellsOf e + k) (by omega) (by
                    rcases hz with hz | hz
                    · exact .inl hz
                    · rcases hzf with hzf | hzf
                      · exact .inl hzf
                      · right
                        rw [he, ← hzf, Nat.add_mul]
                        rw [Nat.add_mul] at hz
                        omega)
                  rwa [← Nat.add_assoc] at this)
            refine ⟨_, μ', (by rw [applyAll_append]; exact hren), ?_⟩
            · rw [applyAll_append]
              refine .sref (slot o.dst) _ 0 (ln + ys.length) _ _ cap (view_mk (by rw [mk_O, if_pos rfl])) hroom (by simp) ?_ ?_
              · simp only [Nat.zero_add]
                rw [← hcp]
                have := hok.cap
                split <;> omega
              · intro h0; simpa using h4 h0
          · -- moved
            have hold : ∀ w' : World, w'.heap = w.heap → (Builtin.firstCells ie.size ln (.slice b ln cap)).run X.P w' = .ok O w' := by
              have := (run_src (P := X.P) (w := w) (v := .slice b ln cap) hO (.inl ⟨b, cap, by rw [hlen], by
                by_cases h0 : ln = 0
                · left; subst h0; simp
                · right; exact ⟨_, _, h4 (by omega), hOc⟩⟩)).2
              rw [hlen, ← hisz] at this
              exact this
            obtain ⟨c, hc, hrun⟩ := run_append_new' (P := X.P) (w := w) (ty := o.type) ht hu hie hzero b ln cap ys.length (a.eval y) O U s1 s2 hold (by omega) (by omega) (by rw [← hby]; exact hbytes)
            have hi1 : Inv X.φ C θ μ (σ.applyAll (if (d == slot o.dst) = true then [] else [W.o d ⟨st, none⟩])) a w := by
              split
              · exact hi
              · refine hi.drop d (fun _ => rfl) (by rw [len_applyAll]) (fun f => ?_) (fun _ => rfl)
                simp only [applyAll_cons, applyAll_nil, getO_o, hd]
            have hcpc : cp ≤ c := by
              rw [← hcp]
              have := hok.cap
              split <;> omega
            obtain ⟨θ', μ', g1, g2⟩ := sim_newSlice (X := X) (w' := w.drew.alloc (.cells (O ++ U ++ Builtin.zeroCells zv.cells (c - (ln + ys.length))) e)) hi1 (slot o.dst) (σ.getO (slot o.dst)).st hst' (X.P.cellsOf e) ((ob.xs.drop lo).take ln ++ ys) cp (ln + ys.length)
              (O ++ U ++ Builtin.zeroCells zv.cells (c - (ln + ys.length))) e (0, 0) c rfl rfl rfl rfl (fun k _ => by simp) hpos (by rw [hall, ← hcp]; omega) hcpc
              (by simp only [Array.size_append, size_zeroCells', hU.size, hOs, hzs, hisz]; rw [← Nat.add_mul, ← Nat.add_mul]; congr 1; omega) (by rw [hall]; exact Nat.le_refl _) hgrid.cells
              (hgrid.pad (Builtin.zeroCells zv.cells (c - (ln + ys.length))))
            obtain ⟨μ2, m1, m2⟩ := Inv.shut_new (slot o.dst) _ _ g1 (σ.getF d)
            refine ⟨_, _, _, by rw [exec _ _ _ hbv rfl hrun]; rfl, .inl rfl, θ', μ2, ?_, ?_⟩
            · rw [applyAll_append]; exact m2
            · rw [applyAll_append]
              exact g2.mono m1 (VLe.refl _)
        · simp [R.run_fail] at hr
    · simp [R.run_fail] at hr
end
end Go.Vm
/- Stores, copies. -/
namespace Go.Vm

theorem repl_length : ∀ (vs : List AV) (cs : List AV) (off : Nat), (repl cs off vs).length = cs.length := by
  intro vs
  induction vs with
  | nil => intro cs off; rfl
  | cons v vs ih => intro cs off; simp only [repl]; rw [ih]; simp

theorem replSt_get : ∀ (vs : List AV) (cs : List AV) (off k : Nat), off + vs.length ≤ cs.length → (repl cs off vs)[k]? = if off ≤ k ∧ k < off + vs.length then vs[k - off]? else cs[k]? := by
  intro vs
  induction vs with
  | nil => intro cs off k _; simp only [repl, List.length_nil]; rw [if_neg (by omega)]
  | cons v vs ih =>
    intro cs off k hle
    simp only [List.length_cons] at hle
    simp only [repl]
    rw [ih _ _ _ (by simp; omega)]
    by_cases h1 : off + 1 ≤ k ∧ k < off + 1 + vs.length
    · rw [if_pos h1, if_pos (by simp only [List.length_cons]; omega), show k - off = (k - (off + 1)) + 1 by omega]
      simp
    · rw [if_neg h1]
      by_cases h2 : k = off
      · subst h2
        rw [if_pos (by simp only [List.length_cons]; omega), Nat.sub_self, List.getElem?_set_self (by omega)]
        simp
      · rw [if_neg (by simp only [List.length_cons]; omega), List.getElem?_set_ne (fun e => h2 e.symm)]

theorem upd_cells {x : AV} {off : Nat} {vs : List AV} (hle : off + vs.length ≤ x.cells.length) (hpos : 0 < vs.length) (h1 : vs.all AV.one = true) : (x.upd off vs).cells = repl x.cells off vs := by
  rcases x.agg_or with ⟨cs, rfl⟩ | hx
  · rfl
  · rw [AV.cells_one hx] at hle ⊢
    simp only [List.length_cons, List.length_nil] at hle
    cases vs with
    | nil => simp at hpos
    | cons v r =>
      cases r with
      | nil =>
        have h0 : off = 0 := by simp at hle; omega
        subst h0
        have hv : ∀ cs, v ≠ .agg cs := by
          rintro cs rfl
          simp [AV.one] at h1
        have e : x.upd 0 [v] = v := by cases x <;> first | rfl | exact absurd rfl (hx _)
        rw [e, AV.cells_one hv]
        rfl
      | cons _ _ => simp at hle; omega

section
variable {φ : Phi} {C : Fr} {θ : Slot → Reg} {μ : Mem} {σ : State} {a : Act} {w : World}

theorem Inv.storeAt (h : Inv φ C θ μ σ a w) {d st i off : Nat} {o : Obj} {y y' : AV} {cs : List AV} {us : List Value} (hd : σ.getO d = ⟨st, some o⟩) (hz : σ.getF d = false) (hy : o.xs[i]? = some y)
    (hle : off + cs.length ≤ y.cells.length) (hus : us.length = cs.length) (hcells : y'.cells = repl y.cells off cs) (hone : o.var = false → cs.all AV.one = true) (h1 : ∀ v ∈ us, v.oneCell' = true)
    (hr : ∀ (j : Nat) (c : AV) (u : Value), cs[j]? = some c → us[j]? = some u → Rep φ μ (viewOf σ θ) c u ∧ (o.var = false → RV φ μ c u)) (P : Program) :
    (storeCells ⟨(θ d).bl, (θ d).off + i * o.e + off, none⟩ us).run P w = .ok () (w.setCells (θ d).bl ((θ d).off + i * o.e + off) us) ∧
      Inv φ C θ μ (σ.applyAll [.o d ⟨st, some { o with xs := o.xs.set i y' }⟩]) a (w.setCells (θ d).bl ((θ d).off + i * o.e + off) us) := by
  have hok := h.obj d o (by rw [hd])
  have hi : i < o.xs.length := (List.getElem?_eq_some_iff.1 hy).1
  have hyl := hok.size i y hy
  have hin : ∀ j, j < us.length → (θ d).Has (θ d).bl ((θ d).off + i * o.e + off + j) := by
    intro j hj
    have h1 : (i + 1) * o.e ≤ o.cap * o.e := Nat.mul_le_mul_right _ (by have := hok.fit; omega)
    rw [Nat.add_mul, Nat.one_mul] at h1
    have := hok.room
    exact ⟨rfl, by omega, by omega⟩
  have hthere : ∀ j, j < us.length → (w.cell? ⟨(θ d).bl, (θ d).off + i * o.e + off + j, none⟩).isSome = true := by
    intro j hj
    obtain ⟨_, q1, q2⟩ := hin j hj
    have := hok.there (i * o.e + off + j) (by omega)
    rwa [show (θ d).off + (i * o.e + off + j) = (θ d).off + i * o.e + off + j by omega] at this
  have hsoft : ∀ j, j < us.length → w.frozen? ⟨(θ d).bl, (θ d).off + i * o.e + off + j, none⟩ = false := by
    intro j hj
    obtain ⟨_, q1, q2⟩ := hin j hj
    have := hok.soft (i * o.e + off + j) (by omega)
    rwa [show (θ d).off + (i * o.e + off + j) = (θ d).off + i * o.e + off + j by omega] at this
  refine ⟨by simpa using run_storeCells_cells (P := P) (θ d).bl ((θ d).off + i * o.e + off) us 0 w (by simpa using hthere) (by simpa using hsoft) h1, ?_⟩
  generalize hw' : w.setCells (θ d).bl ((θ d).off + i * o.e + off) us = w'
  have wout : ∀ b k, ¬(b = (θ d).bl ∧ (θ d).off + i * o.e + off ≤ k ∧ k < (θ d).off + i * o.e + off + us.length) → w'.cell? ⟨b, k, none⟩ = w.cell? ⟨b, k, none⟩ := by
    intro b k hn
    rw [← hw']
    refine World.cell?_setCells_out _ _ _ _ _ (fun hb _ => ?_)
    simp only at hb ⊢
    omega
  have win : ∀ j (hj : j < us.length), w'.cell? ⟨(θ d).bl, (θ d).off + i * o.e + off + j, none⟩ = some us[j] := by
    intro j hj
    rw [← hw']
    exact World.cell?_setCells_in _ _ _ _ hthere j hj
  have hwf : ∀ b k, w'.frozen? ⟨b, k, none⟩ = w.frozen? ⟨b, k, none⟩ := fun b k => by rw [← hw']; exact World.frozen?_setCells _ _ _ _ _
  have hlen' : y'.cells.length = o.e := by rw [hcells, repl_length]; exact hyl
  have hone' : o.var = false → y'.cells.all AV.one = true := by
    intro hv
    rw [hcells, List.all_eq_true]
    intro c hc
    obtain ⟨k, hk, rfl⟩ := List.mem_iff_getElem.1 hc
    have e := List.getElem?_eq_getElem hk
    rw [replSt_get _ _ _ _ hle] at e
    split at e
    · have := hone hv
      rw [List.all_eq_true] at this
      exact this _ (List.mem_of_getElem? e)
    · have := hok.one hv i y hy
      rw [List.all_eq_true] at this
      exact this _ (List.mem_of_getElem? e)
  refine h.write d st o { o with xs := o.xs.set i y' } hd (fun b k => b = (θ d).bl ∧ (θ d).off + i * o.e + off ≤ k ∧ k < (θ d).off + i * o.e + off + us.length) (fun _ => rfl) (by rw [len_applyAll])
    (fun f => by simp only [applyAll_cons, applyAll_nil, getO_o]) (fun _ => rfl) ?_ (fun b k v hn hv => by rw [wout b k hn]; exact hv) hwf ?_ ?_ ?_
  · rintro b k ⟨rfl, q1, q2⟩
    obtain ⟨_, r1, r2⟩ := hin (k - ((θ d).off + i * o.e + off)) (by omega)
    exact ⟨rfl, by omega, by omega⟩
  · rintro b k ⟨rfl, q1, q2⟩
    obtain ⟨_, r1, r2⟩ := hin (k - ((θ d).off + i * o.e + off)) (by omega)
    have := hok.free (k - (θ d).off) (by omega) (.inl hz)
    rwa [show (θ d).off + (k - (θ d).off) = k by omega] at this
  · rw [← hw']
    exact h.frame.setCells _ _ _ (fun j hj => h.mine d o (by rw [hd]) _ _ (hin j hj))
  · have hset : ∀ (k : Nat) (x : AV), (o.xs.set i y')[k]? = some x → (k = i ∧ x = y') ∨ (k ≠ i ∧ o.xs[k]? = some x) := by
      intro k x hx
      by_cases hk : k = i
      · subst hk
        rw [List.getElem?_set_self hi] at hx
        exact .inl ⟨rfl, (Option.some.inj hx).symm⟩
      · rw [List.getElem?_set_ne (fun e => hk e.symm)] at hx
        exact .inr ⟨hk, hx⟩
    refine ⟨hok.e, hok.pos, hok.cap, by simpa using hok.fit, hok.room, ?_, ?_, ?_, ?_, ?_, ?_⟩
    · intro k x hx
      rcases hset k x hx with ⟨rfl, rfl⟩ | ⟨_, hx⟩
      · exact hlen'
      · exact hok.size k x hx
    · intro hv k x hx
      rcases hset k x hx with ⟨rfl, rfl⟩ | ⟨_, hx⟩
      · exact hone' hv
      · exact hok.one hv k x hx
    · intro k j x c hx hc
      rcases hset k x hx with ⟨rfl, rfl⟩ | ⟨hk, hx⟩
      · rw [hcells, replSt_get _ _ _ _ hle] at hc
        split at hc
        · rename_i hj
          have hju : j - off < us.length := by omega
          obtain ⟨r1, r2⟩ := hr (j - off) c us[j - off] hc (List.getElem?_eq_getElem hju)
          refine ⟨us[j - off], ?_, r1, r2, fun hzz => by rw [hz] at hzz; cases hzz⟩
          have := win (j - off) hju
          rwa [show (θ d).off + k * o.e + off + (j - off) = (θ d).off + k * o.e + j by omega] at this
        · rename_i hj
          obtain ⟨v, r1, r2, r3, r4⟩ := hok.cell k j y c hy hc
          refine ⟨v, ?_, r2, r3, r4⟩
          simp only
          rw [wout _ _ (fun h => by obtain ⟨_, q1, q2⟩ := h; omega)]
          exact r1
      · obtain ⟨v, r1, r2, r3, r4⟩ := hok.cell k j x c hx hc
        refine ⟨v, ?_, r2, r3, r4⟩
        simp only
        rw [wout _ _ (fun h => ?_)]
        · exact r1
        · obtain ⟨_, q1, q2⟩ := h
          have hj : j < x.cells.length := (List.getElem?_eq_some_iff.1 hc).1
          rw [hok.size k x hx] at hj
          rcases Nat.lt_or_gt_of_ne hk with hlt | hlt
          · have := Nat.mul_le_mul_right o.e (show k + 1 ≤ i by omega)
            rw [Nat.add_mul, Nat.one_mul] at this
            omega
          · have := Nat.mul_le_mul_right o.e (show i + 1 ≤ k by omega)
            rw [Nat.add_mul, Nat.one_mul] at this
            omega
    · intro k hk
      by_cases hw : (θ d).off + i * o.e + off ≤ (θ d).off + k ∧ (θ d).off + k < (θ d).off + i * o.e + off + us.length
      · have := win (k - (i * o.e + off)) (by omega)
        rw [show (θ d).off + i * o.e + off + (k - (i * o.e + off)) = (θ d).off + k by omega] at this
        rw [this]
        rfl
      · rw [wout _ _ (fun h => hw h.2)]
        exact hok.there k hk
    · intro k hk
      rw [hwf]
      exact hok.soft k hk
    · intro k hk _
      exact hok.free k hk (.inl hz)
end

section
variable {X : Cx} {C : Fr} {o : Oper}

theorem sim_store {t : TypeId} {x y : Operand} {x' y' : Opnd} {sh : Shape} (ho : o.op = .store t x y) (hx : opnd X x = some x') (hy : opnd X y = some y') (ht : okSize X.P t = true) : Sim X C o (.store (X.P.cellsOf t) sh x' y') := by
  intro orc θ μ σ a w v ws hi hr
  simp only [ROp.sem, R.run_bind, Opnd.run_get, Option.bind_some] at hr
  have e1 := hi.ev rfl hx
  have e2 := hi.ev rfl hy
  obtain ⟨hpos, _, ie, hie, hisz⟩ := okSize_spec ht
  split at hr
  · rename_i d st i off hxv
    rw [hxv] at e1
    simp only [R.run_bind] at hr
    cases hob : (theObj d st).run σ with
    | none => simp [hob] at hr
    | some ob =>
      simp only [hob, Option.bind_some, run_frz] at hr
      have hd := run_theObj.1 hob
      split at hr
      · rename_i z hz
        split at hr
        · rename_i hc
          simp only [Bool.and_eq_true, Bool.not_eq_true', beq_iff_eq, decide_eq_true_eq] at hc
          obtain ⟨⟨⟨hfz, hbl⟩, hle⟩, hone⟩ := hc
          obtain ⟨ea, _⟩ := hi.at_ref e1 hd hz
          have hsolid : (y'.val σ).solid = true := by
            cases hv : y'.val σ <;> first | rfl | (rw [hv] at hone; simp [AV.cells, AV.one] at hone)
          obtain ⟨c1, c2⟩ := e2.cells hsolid
          have hcs : (a.eval y).cells.size = ie.size := by rw [c1, hbl, hisz]
          have hones : ∀ u ∈ (a.eval y).cells.toList, u.oneCell' = true := by
            intro u hu
            obtain ⟨k, hk, rfl⟩ := List.mem_iff_getElem.1 hu
            have hk' : k < (y'.val σ).cells.length := by rw [← c1]; simpa using hk
            have := c2 k _ _ (List.getElem?_eq_getElem hk') (Array.getElem?_eq_getElem (by simpa using hk))
            rw [List.all_eq_true] at hone
            have := this.one (hone _ (List.getElem_mem hk'))
            simpa using this
          have exec : ∀ w', (storeCells ⟨(θ d).bl, (θ d).off + i * ob.e + off, none⟩ (a.eval y).cells.toList).run X.P w = .ok () w' → (execOp a.eval o).run X.P w = .ok .skip w' := by
            intro w' hw
            simp [execOp, ho, ea, Instr.storeAt, Instr.sureAddr, storeVar, sizeOf, typeInfo, hie, hcs, hw]
          split at hr
          · rename_i hvar
            simp only [R.run_ret, Option.some.injEq, Prod.mk.injEq] at hr
            obtain ⟨rfl, rfl⟩ := hr
            obtain ⟨s1, s2⟩ := hi.storeAt (cs := (y'.val σ).cells) (us := (a.eval y).cells.toList) (y' := z.upd off (y'.val σ).cells) hd hfz hz (by rw [hbl]; exact hle) (by simp [c1])
              (upd_cells (by rw [hbl]; exact hle) (by rw [hbl]; exact hpos) hone) (fun h => by rw [hvar] at h; cases h) hones
              (fun j c u hc hu => ⟨c2 j c u hc (by simpa using hu), fun h => by rw [hvar] at h; cases h⟩) X.P
            exact ⟨.skip, undef, _, exec _ s1, .inr ⟨rfl, rfl⟩, θ, μ, s2, .any _⟩
          · rename_i hvar
            simp only [Bool.not_eq_true] at hvar
            simp only [R.run_bind] at hr
            cases hv : (Vm.valR depth (y'.val σ)).run σ with
            | none => simp [hv] at hr
            | some q =>
              simp only [hv, Option.bind_some] at hr
              split at hr
              · simp [R.run_fail] at hr
              · rename_i hcond
                simp only [Bool.or_eq_true, Bool.not_eq_true', bne_iff_ne, ne_eq, not_or, Bool.not_eq_false, Decidable.not_not] at hcond
                obtain ⟨⟨hnc, hone2⟩, hbl2⟩ := hcond
                simp only [R.run_ret, Option.some.injEq, Prod.mk.injEq] at hr
                obtain ⟨rfl, rfl⟩ := hr
                obtain ⟨μ1, f1, f2, f3, f4⟩ := hi.freezeAll q.2
                have hrv := hi.valR f1 depth _ _ _ (a.eval y) hv e2 f3
                obtain ⟨k1, k2⟩ := hrv.cells
                obtain ⟨n1, n2⟩ := nz_cells sh q.1
                have hpt : ∀ (j : Nat) (c : AV) (u : Value), (nz sh q.1).cells[j]? = some c → (a.eval y).cells.toList[j]? = some u → RV X.φ μ1 c u := by
                  intro j c u hc hu
                  obtain ⟨kk, c0, r1, rfl⟩ := n2 j c hc
                  exact (k2 j c0 u r1 (by simpa using hu)).nz1 kk
                obtain ⟨s1, s2⟩ := f2.storeAt (d := d) (st := st) (o := ob) (i := i) (off := off) (y := z) (cs := (nz sh q.1).cells) (us := (a.eval y).cells.toList) (y' := z.upd off (nz sh q.1).cells) (by rw [setFs_O]; exact hd)
                  (by rw [setFs_F, hfz]; simpa using hnc) hz (by rw [hbl2]; exact hle) (by simp [c1, hbl, hbl2])
                  (upd_cells (by rw [hbl2]; exact hle) (by rw [hbl2]; exact hpos) hone2) (fun _ => hone2) hones
                  (fun j c u hc hu => ⟨.val (hpt j c u hc hu), fun _ => hpt j c u hc hu⟩) X.P
                exact ⟨.skip, undef, _, exec _ s1, .inr ⟨rfl, rfl⟩, θ, μ1, by rw [applyAll_append]; exact s2, .any _⟩
        · simp [R.run_fail] at hr
      · simp [R.run_fail] at hr
  · simp [R.run_fail] at hr
end
end Go.Vm
/- The remaining operations: strings, copies. -/
namespace Go.Vm

section
variable {X : Cx} {C : Fr} {o : Oper}

theorem sim_len_arr {x : Operand} {t e : TypeId} {n : Nat} (ho : o.op = .call { callee := .builtin .len, args := #[x], argTypes := #[t] }) (ht : X.P.underlying t = some (.array n e)) : Sim X C o (.mv (.c (.int .i64 n)) false) := by
  refine sim_pure fun orc θ μ σ a w v ws hi hr => ?_
  simp only [ROp.sem, R.run_bind, Opnd.run_get, Option.bind_some, Bool.false_eq_true, if_false, R.run_ret, Option.some.injEq, Prod.mk.injEq, Opnd.val] at hr
  obtain ⟨rfl, rfl⟩ := hr
  exact ⟨rfl, .int .i64 n, by simp [execOp, ho, resolve, invoke, builtin, Builtin.len_, run_underlying ht, goInt], .val (.int _ _)⟩

theorem sim_toStr_str {src dst : TypeId} {x : Operand} {x' : Opnd} (ho : o.op = .convert src dst x) (hx : opnd X x = some x') (hs : X.P.underlying src = some .string) (hd : X.P.underlying dst = some .string) :
    Sim X C o (.toStr true x') := by
  refine sim_pure fun orc θ μ σ a w v ws hi hr => ?_
  simp only [ROp.sem, R.run_bind, Opnd.run_get, Option.bind_some] at hr
  have e := hi.ev rfl hx
  split at hr <;> first | (simp [R.run_fail] at hr; done) | skip
  · rename_i s h1 h2
    rw [h2] at e
    simp only [R.run_ret, Option.some.injEq, Prod.mk.injEq] at hr
    obtain ⟨rfl, rfl⟩ := hr
    exact ⟨rfl, .string ⟨s.toArray⟩, by simp [execOp, ho, e.str_inv, convert, run_underlying hs, run_underlying hd], .val (.str _)⟩
  all_goals simp at *

theorem bytesOf_spec {φ : Phi} {μ : Mem} : ∀ {xs : List AV} {l : List UInt8} {U : List Value}, bytesOf xs = some l → U.length = xs.length → (∀ (j : Nat) (x : AV) (v : Value), xs[j]? = some x → U[j]? = some v → RV φ μ x v) →
    ∃ ns : List Int, U = ns.map (Value.int .u8) ∧ l = ns.map fun n => UInt8.ofNat n.toNat
  | [], l, U, h, hl, _ => by
    simp only [bytesOf, Option.some.injEq] at h
    subst h
    have : U = [] := List.length_eq_zero_iff.1 hl
    subst this
    exact ⟨[], rfl, rfl⟩
  | x :: xs, l, U, h, hl, hr => by
    cases U with
    | nil => simp at hl
    | cons v U =>
      unfold bytesOf at h
      split at h
      · rename_i he; cases he
      · rename_i n r he
        cases he
        simp only [Option.map_eq_some_iff] at h
        obtain ⟨l', h', rfl⟩ := h
        obtain ⟨ns, g1, g2⟩ := bytesOf_spec h' (by simpa using hl) (fun j x v h1 h2 => hr (j + 1) x v (by simpa using h1) (by simpa using h2))
        have := hr 0 _ v rfl rfl
        cases this
        exact ⟨n :: ns, by simp [g1], by simp [g2]⟩
      · cases h

theorem sim_toStr_bytes {src dst e : TypeId} {x : Operand} {x' : Opnd} (ho : o.op = .convert src dst x) (hx : opnd X x = some x') (hs : X.P.underlying src = some (.slice e)) (he : X.P.underlying e = some (.int .u8)) (hd : X.P.underlying dst = some .string) :
    Sim X C o (.toStr false x') := by
  refine sim_pure fun orc θ μ σ a w v ws hi hr => ?_
  simp only [ROp.sem, R.run_bind, Opnd.run_get, Option.bind_some] at hr
  have ev := hi.ev rfl hx
  have main : ((elems 1 (x'.val σ)).bind fun xs => (R.ofOpt (bytesOf xs)).bind fun l => R.ret (AV.str l, ([] : List W))).run σ = some (v, ws) → (∀ s, x'.val σ ≠ .str s) → ws = [] ∧ ∃ cv, (execOp a.eval o).run X.P w = .ok (.value cv) w ∧ Rep X.φ μ (viewOf σ θ) v cv := by
    intro hr hns
    simp only [R.run_bind] at hr
    cases hel : (elems 1 (x'.val σ)).run σ with
    | none => simp [hel] at hr
    | some xs =>
      simp only [hel, Option.bind_some, R.run_ofOpt] at hr
      cases hb : bytesOf xs with
      | none => simp [hb] at hr
      | some l =>
        simp only [hb, Option.bind_some, R.run_ret, Option.some.injEq, Prod.mk.injEq] at hr
        obtain ⟨rfl, rfl⟩ := hr
        obtain ⟨U, hU, hform⟩ := hi.elems hel ev
        have hUl : U.toList.length = xs.length := by have := hU.size; simpa using this
        have hcells : ∀ (j : Nat) (x : AV) (u : Value), xs[j]? = some x → U.toList[j]? = some u → RV X.φ μ x u := by
          intro j x u hx hu
          have hc := (hU.cells j x hx).1
          have hne : ∀ zs, x ≠ .agg zs ∨ ∃ c, x.cells = [c] := fun zs => .inr (by
            cases hxc : x.cells with
            | nil => rw [hxc] at hc; simp at hc
            | cons c r => cases r with
              | nil => exact ⟨c, rfl⟩
              | cons _ _ => rw [hxc] at hc; simp at hc)
          rcases x.agg_or with ⟨cs, rfl⟩ | hna
          · -- an element that is an array of one cell: no byte
            exfalso
            have hj : j < xs.length := (List.getElem?_eq_some_iff.1 hx).1
            have : ∀ (ys : List AV) (l : List UInt8), bytesOf ys = some l → ∀ (j : Nat) (cs : List AV), ys[j]? ≠ some (AV.agg cs) := by
              intro ys
              induction ys with
              | nil => intro l _ j cs h; simp at h
              | cons y ys ih =>
                intro l h j cs hj
                unfold bytesOf at h
                split at h
                · rename_i he; cases he
                · rename_i n r he
                  cases he
                  simp only [Option.map_eq_some_iff] at h
                  obtain ⟨l', h', _⟩ := h
                  cases j with
                  | zero => simp at hj
                  | succ j => exact ih l' h' j cs (by simpa using hj)
                · cases h
            exact this xs l hb j cs hx
          · obtain ⟨v, g1, g2⟩ := hU.val j 0 x x hx (by rw [AV.cells_one hna]; rfl)
            simp only [Nat.mul_one, Nat.add_zero] at g1
            have : U.toList[j]? = some v := by simpa using g1
            rw [hu] at this
            cases this
            exact g2
        obtain ⟨ns, k1, k2⟩ := bytesOf_spec hb hUl hcells
        rcases hform with ⟨b, cap, hev, hor⟩ | ⟨_, s, hev, _⟩
        · refine ⟨rfl, .string ⟨l.toArray⟩, ?_, .val (.str _)⟩
          have hrun : (convert src dst (.slice b xs.length cap)).run X.P w = .ok (.string ⟨l.toArray⟩) w := by
            rw [run_convert_bytes_string w src dst e b xs.length cap hs he hd]
            have hns : xs.length = ns.length := by rw [← hUl, k1]; simp
            cases b with
            | none =>
              rcases hor with rfl | ⟨bl, off, hb', _⟩
              · simp only [List.length_nil] at hns
                have : ns = [] := List.length_eq_zero_iff.1 hns.symm
                subst this
                subst k2
                simp [Conv.bytesToString]
                rfl
              · cases hb'
            | some ad =>
              have hload : (loadCells ad xs.length).run X.P w = .ok (ns.map (Value.int .u8)).toArray w := by
                rcases hor with rfl | ⟨bl, off, hb', hcell⟩
                · simp only [List.length_nil] at hns
                  have : ns = [] := List.length_eq_zero_iff.1 hns.symm
                  subst this
                  simp [loadCells, loadCellsFrom]
                · cases hb'
                  have hl := run_loadCells_list (P := X.P) w ⟨bl, off, none⟩ U.toList (fun j u hu => by
                    have hj : j < U.size := by
                      have := (List.getElem?_eq_some_iff.1 hu).1
                      simpa using this
                    rw [Addr.add_mid, hcell j hj]
                    simpa using hu)
                  rw [hUl] at hl
                  rw [← k1]
                  simpa using hl
              rw [run_bytesToString w ad xs.length cap ns hload, foldl_push_bytes, k2]
              simp
          simp [execOp, ho, hev, hrun]
        · exfalso
          rw [hev] at ev
          -- a string is no slice
          cases hv : x'.val σ with
          | str s' => exact hns s' hv
          | sref d st lo ln =>
            rw [hv] at hel ev
            simp only [Vm.elems, R.run_bind] at hel
            cases hob : (theObj d st).run σ with
            | none => simp [hob] at hel
            | some ob =>
              obtain ⟨b, c, h, _⟩ := ev.sref_inv (viewOf_live (run_theObj.1 hob))
              cases h
          | nil => rw [hv] at ev; cases ev.nil_inv
          | emp => rw [hv] at ev; obtain ⟨_, _, h⟩ := ev.emp_inv; cases h
          | sl e xs => rw [hv] at ev; have := ev.sl_inv; cases this
          | _ => rw [hv] at hel; simp [Vm.elems, R.run_fail] at hel
  split at hr <;> first | (simp [R.run_fail] at hr; done) | skip
  all_goals first
    | (rename_i h1 h2; exact main hr (fun s hs => by simp_all))
    | simp at *
end
end Go.Vm
/- The remaining operations that make or hand on memory. -/
namespace Go.Vm

section
variable {X : Cx} {C : Fr} {o : Oper}

theorem sim_toBytes {src dst e : TypeId} {x : Operand} {x' : Opnd} (ho : o.op = .convert src dst x) (hx : opnd X x = some x') (hs : X.P.underlying src = some .string) (hd : X.P.underlying dst = some (.slice e)) (he : X.P.underlying e = some (.int .u8)) :
    Sim X C o (.toBytes x') := by
  intro orc θ μ σ a w v ws hi hr
  simp only [ROp.sem, R.run_bind, Opnd.run_get, Option.bind_some] at hr
  have ev := hi.ev rfl hx
  split at hr
  · rename_i s hsv
    rw [hsv] at ev
    simp only [run_mk, List.nil_append, Option.some.injEq, Prod.mk.injEq] at hr
    obtain ⟨rfl, rfl⟩ := hr
    have hz : (⟨s.toArray⟩ : ByteArray).size = s.length := by show s.toArray.size = _; simp
    have hge := grownCap_ge w s.length 0 e
    have hA : (Lib.bytesCells w e ⟨s.toArray⟩).size = grownCap w s.length 0 e := by
      simp only [Lib.bytesCells, hz]
      simp
      omega
    have hheap : (Lib.bytesWorld w e ⟨s.toArray⟩).heap = w.heap.push (.cells (Lib.bytesCells w e ⟨s.toArray⟩) e ((Lib.bytesCells w e ⟨s.toArray⟩).size, (Lib.bytesCells w e ⟨s.toArray⟩).size + 1)) := by
      apply Array.ext_getElem?
      intro j
      rw [Array.getElem?_push]
      rcases Nat.lt_trichotomy j w.heap.size with hj | hj | hj
      · rw [Lib.bytesWorld_at_old _ _ _ _ hj, if_neg (by omega)]
      · subst hj; rw [Lib.bytesWorld_at_new, if_pos rfl]
      · rw [if_neg (by omega), Array.getElem?_eq_none (by rw [Lib.bytesWorld_size]; omega), Array.getElem?_eq_none (by omega)]
    obtain ⟨θ', μ', g1, g2⟩ := sim_newSlice (X := X) (w' := Lib.bytesWorld w e ⟨s.toArray⟩) hi (slot o.dst) (σ.getO (slot o.dst)).st rfl 1 (s.map fun b => .int .u8 b.toNat) s.length s.length _ e _ (grownCap w s.length 0 e) hheap rfl rfl rfl
      (fun k hk h => by simp only at h; omega) (by omega) (by simp) (by omega) (by rw [hA]; omega) (by simp)
      (fun i x hx => by
        simp only [List.getElem?_map, Option.map_eq_some_iff] at hx
        obtain ⟨b, _, rfl⟩ := hx
        exact ⟨rfl, rfl⟩)
      (fun i j x c hx hc => by
        simp only [List.getElem?_map, Option.map_eq_some_iff] at hx
        obtain ⟨b, hb, rfl⟩ := hx
        cases j with
        | succ j => simp [AV.cells] at hc
        | zero =>
          simp [AV.cells] at hc
          subst hc
          have hi' : i < s.length := (List.getElem?_eq_some_iff.1 hb).1
          refine ⟨.int .u8 b.toNat, ?_, .int _ _⟩
          have hsi : s[i]? = some b := hb
          simp only [Lib.bytesCells, Nat.mul_one, Nat.add_zero]
          rw [Array.getElem?_append_left (by simpa using hi')]
          simp [hsi])
    refine ⟨.value (.slice (some ⟨w.heap.size, 0, none⟩) s.length (grownCap w s.length 0 e)), _, Lib.bytesWorld w e ⟨s.toArray⟩, ?_, .inl rfl, θ', μ', g1, g2⟩
    have hrun := Lib.run_convert_string_bytes (P := X.P) w src dst e ⟨s.toArray⟩ hs hd he
    rw [hz] at hrun
    simp [execOp, ho, ev.str_inv, hrun]
  · simp [R.run_fail] at hr

theorem sim_rehome {x : Operand} {y : Opnd} (ho : o.op = .assign x) (hy : opnd X x = some y) : Sim X C o (.mv y true) := by
  intro orc θ μ σ a w v ws hi hr
  simp only [ROp.sem, R.run_bind, Opnd.run_get, Option.bind_some, if_true] at hr
  have ev := hi.ev rfl hy
  have hex : (execOp a.eval o).run X.P w = .ok (.value (a.eval x)) w := by simp [execOp, ho]
  split at hr
  · rename_i d st lo ln hsv
    rw [hsv] at ev
    simp only [R.run_bind] at hr
    cases hob : (theObj d st).run σ with
    | none => simp [hob] at hr
    | some ob =>
      simp only [hob, Option.bind_some, run_frz] at hr
      split at hr
      · simp only [R.run_ret, Option.some.injEq, Prod.mk.injEq] at hr
        obtain ⟨rfl, rfl⟩ := hr
        exact ⟨_, _, w, hex, .inl rfl, θ, μ, hi, by rw [hsv]; exact ev⟩
      · rename_i hne
        have hne' : ¬ d = slot o.dst := by simpa using hne
        have hne2 : ¬ slot o.dst = d := fun h => hne' h.symm
        simp only [run_mk, Option.some.injEq, Prod.mk.injEq] at hr
        obtain ⟨rfl, rfl⟩ := hr
        have hd := run_theObj.1 hob
        have hok := hi.obj d ob (by rw [hd])
        obtain ⟨b, cap, hev, h1, h2, h3, h4⟩ := ev.sref_inv (viewOf_live hd)
        generalize hσ' : σ.applyAll ([.o d ⟨st, none⟩] ++ [.o (slot o.dst) ⟨(σ.getO (slot o.dst)).st + 1, some ob⟩, .f (slot o.dst) (σ.getF d)]) = σ'
        have hO : ∀ e, σ'.getO e = if e = slot o.dst then ⟨(σ.getO (slot o.dst)).st + 1, some ob⟩ else if some d = some e then ⟨(σ.getO e).st, none⟩ else σ.getO e := by
          intro e
          rw [← hσ', applyAll_append, mk_O]
          split
          · rfl
          · simp only [applyAll_cons, applyAll_nil, getO_o]
            by_cases he : e = d
            · subst he; simp [hd]
            · have : ¬ d = e := fun h => he h.symm
              simp [he, this]
        have hren := hi.renew (σ' := σ') (w' := w) (μ' := μ) (some d) (slot o.dst) (θ d) ob (σ.getF d) (fun _ _ => False)
          (fun n => by rw [← hσ', applyAll_append, mk_T]; rfl) (by rw [← hσ', len_applyAll]) hO
          (fun e => by rw [← hσ', applyAll_append, mk_F]; rfl)
          (fun g hg => by cases hg; exact ⟨ob, by rw [hd]⟩) (Mem.Le.refl μ) (fun _ _ _ hm => .inl hm) (fun b k hb => .inl ⟨d, rfl, hb⟩) (fun _ _ h => h.elim) (fun _ _ _ _ h => h) (fun _ _ _ => rfl) hi.sub hi.frame
          (fun V' hV' => hok.kept (Mem.Le.refl μ) hV' (fun _ _ _ _ h => h) (fun _ _ _ => rfl) (fun _ _ _ h => h))
        refine ⟨_, _, w, hex, .inl rfl, _, μ, hren, ?_⟩
        rw [hev]
        refine .sref (slot o.dst) _ lo ln (θ d) b cap ?_ h1 h2 h3 h4
        exact view_mk (θ := θ) (r := θ d) (by rw [hO, if_pos rfl])
  · simp only [R.run_ret, Option.some.injEq, Prod.mk.injEq] at hr
    obtain ⟨rfl, rfl⟩ := hr
    exact ⟨_, _, w, hex, .inl rfl, θ, μ, hi, ev⟩
end
end Go.Vm
/- copy. -/
namespace Go.Vm

section
variable {X : Cx} {C : Fr} {o : Oper}

theorem run_copy' {P : Program} {w : World} {t u ty e : TypeId} {i : TypeInfo} (ht : P.underlying t = some (.slice e)) (hi : P.info? e = some i)
    (b : Option Addr) (ln cap n : Nat) (src : Value) (U : Array Value) (hlen : ∀ w', (Builtin.lenOf src).run P w' = .ok n w') (hcells : ∀ w' : World, w'.heap = w.heap → (Builtin.firstCells i.size n src).run P w' = .ok U w')
    (hle : n ≤ ln) (bl off : Nat) (hb : ln ≠ 0 → b = some ⟨bl, off, none⟩) (hUn : n = 0 → U = #[])
    (hc : ∀ j, j < U.size → (w.cell? ⟨bl, off + j, none⟩).isSome = true) (hf : ∀ j, j < U.size → w.frozen? ⟨bl, off + j, none⟩ = false) (h1 : ∀ v ∈ U.toList, v.oneCell' = true) :
    (Builtin.copy_ #[t, u] ty #[.slice b ln cap, src]).run P w = .ok (.int .i64 n) (w.setCells bl off U.toList) := by
  have store : (match b with | some a => storeCells a U.toList | none => pure ()).run P w = .ok () (w.setCells bl off U.toList) := by
    by_cases h0 : ln = 0
    · have hn : n = 0 := by omega
      rw [hUn hn]
      cases b with
      | none => rfl
      | some ad => rfl
    · rw [hb h0]
      have := run_storeCells_cells (P := P) bl off U.toList 0 w (fun j hj => by simpa using hc j (by simpa using hj)) (fun j hj => by simpa using hf j (by simpa using hj)) h1
      simpa using this
  have hmin : Nat.min n ln = n := Nat.min_eq_left hle
  simp only [Builtin.copy_]
  simp [run_underlying ht, sizeOf, typeInfo, hi, hlen, hmin, hcells w rfl, goInt]
  cases b with
  | none => simpa using congrArg (fun r => r.andThen fun _ w' => Result.ok (Value.int .i64 n) w') store
  | some ad => simpa using congrArg (fun r => r.andThen fun _ w' => Result.ok (Value.int .i64 n) w') store

theorem splice_get (xs ys : List AV) (lo : Nat) (h : lo + ys.length ≤ xs.length) : (xs.take lo ++ ys ++ xs.drop (lo + ys.length)).length = xs.length ∧
    ∀ i : Nat, (xs.take lo ++ ys ++ xs.drop (lo + ys.length))[i]? = if lo ≤ i ∧ i < lo + ys.length then ys[i - lo]? else xs[i]? := by
  refine ⟨by simp; omega, fun i => ?_⟩
  have hl : (xs.take lo).length = lo := by simp; omega
  rw [List.append_assoc, List.getElem?_append, hl]
  by_cases h1 : i < lo
  · rw [if_pos h1, if_neg (by omega), List.getElem?_take, if_pos h1]
  · rw [if_neg h1, List.getElem?_append]
    by_cases h2 : i < lo + ys.length
    · rw [if_pos (by omega), if_pos (by omega)]
    · rw [if_neg (by omega), if_neg (by omega), List.getElem?_drop]
      congr 1
      omega

theorem sim_copy {t u e : TypeId} {x y : Operand} {x' y' : Opnd} (ho : o.op = .call { callee := .builtin .copy, args := #[x, y], argTypes := #[t, u] }) (hx : opnd X x = some x') (hy : opnd X y = some y')
    (ht : X.P.underlying t = some (.slice e)) (hs : okSize X.P e = true) : Sim X C o (.copy (X.P.cellsOf e) x' y') := by
  intro orc θ μ σ a w v ws hi hr
  simp only [ROp.sem, R.run_bind, Opnd.run_get, Option.bind_some] at hr
  have e1 := hi.ev rfl hx
  have e2 := hi.ev rfl hy
  obtain ⟨hpos, _, ie, hie, hisz⟩ := okSize_spec hs
  cases hel : (elems (X.P.cellsOf e) (y'.val σ)).run σ with
  | none => simp [hel] at hr
  | some ys =>
    simp only [hel, Option.bind_some] at hr
    obtain ⟨U, hU, hform⟩ := hi.elems hel e2
    obtain ⟨s1, s2⟩ := run_src (P := X.P) hU hform
    have hUn : ys.length = 0 → U = #[] := fun h0 => Array.eq_empty_of_size_eq_zero (by rw [hU.size, h0]; simp)
    split at hr
    · rename_i d st lo ln hsr
      rw [hsr] at e1
      simp only [R.run_bind] at hr
      cases hob : (theObj d st).run σ with
      | none => simp [hob] at hr
      | some ob =>
        simp only [hob, Option.bind_some, run_frz] at hr
        split at hr
        · rename_i hc
          simp only [Bool.and_eq_true, beq_iff_eq, Bool.not_eq_true', decide_eq_true_eq] at hc
          obtain ⟨⟨⟨he, hvar⟩, hz⟩, hle, hyl⟩ := hc
          simp only [R.run_ret, Option.some.injEq, Prod.mk.injEq] at hr
          obtain ⟨rfl, rfl⟩ := hr
          have hd := run_theObj.1 hob
          have hok := hi.obj d ob (by rw [hd])
          obtain ⟨b, cap, hbv, h1, h2, h3, h4⟩ := e1.sref_inv (viewOf_live hd)
          have hre : (θ d).e = X.P.cellsOf e := by rw [hok.e, he]
          rw [hre] at h2 h4
          obtain ⟨sp1, sp2⟩ := splice_get ob.xs ys lo (by omega)
          have hUsz : U.size = ys.length * X.P.cellsOf e := hU.size
          have htot : (lo + ys.length) * X.P.cellsOf e ≤ (θ d).n := Nat.le_trans (Nat.mul_le_mul_right _ (by omega)) h2
          rw [Nat.add_mul] at htot
          have hin : ∀ j, j < U.size → (θ d).Has (θ d).bl ((θ d).off + lo * X.P.cellsOf e + j) := fun j hj => ⟨rfl, by omega, by omega⟩
          have hthere : ∀ j, j < U.size → (w.cell? ⟨(θ d).bl, (θ d).off + lo * X.P.cellsOf e + j, none⟩).isSome = true := by
            intro j hj
            have := hok.there (lo * X.P.cellsOf e + j) (by omega)
            rwa [← Nat.add_assoc] at this
          have hsoft : ∀ j, j < U.size → w.frozen? ⟨(θ d).bl, (θ d).off + lo * X.P.cellsOf e + j, none⟩ = false := by
            intro j hj
            have := hok.soft (lo * X.P.cellsOf e + j) (by omega)
            rwa [← Nat.add_assoc] at this
          have hrun := run_copy' (P := X.P) (w := w) (ty := o.type) (u := u) ht hie b ln cap ys.length (a.eval y) U s1 (by rw [hisz]; exact s2) hyl (θ d).bl ((θ d).off + lo * X.P.cellsOf e)
            (fun h0 => h4 (by omega)) hUn hthere hsoft (hU.one hpos)
          generalize hw' : w.setCells (θ d).bl ((θ d).off + lo * X.P.cellsOf e) U.toList = w' at hrun
          have wout : ∀ b k, ¬(b = (θ d).bl ∧ (θ d).off + lo * X.P.cellsOf e ≤ k ∧ k < (θ d).off + lo * X.P.cellsOf e + U.size) → w'.cell? ⟨b, k, none⟩ = w.cell? ⟨b, k, none⟩ := by
            intro b k hn
            rw [← hw']
            refine World.cell?_setCells_out _ _ _ _ _ (fun hb _ => ?_)
            simp only at hb
            simp only [Array.length_toList]
            omega
          have win : ∀ j, j < U.size → w'.cell? ⟨(θ d).bl, (θ d).off + lo * X.P.cellsOf e + j, none⟩ = U[j]? := by
            intro j hj
            rw [← hw', World.cell?_setCells_in _ _ _ _ (fun i hi => hthere i (by simpa using hi)) j (by simpa using hj)]
            simp [hj]
          have hwf : ∀ b k, w'.frozen? ⟨b, k, none⟩ = w.frozen? ⟨b, k, none⟩ := fun b k => by rw [← hw']; exact World.frozen?_setCells _ _ _ _ _
          have hμ0 : ∀ k, k < (θ d).n → μ (θ d).bl ((θ d).off + k) = none := fun k hk => hok.free k hk (.inl hz)
          have hwr := hi.write (σ' := σ.applyAll [.o d ⟨st, some { ob with xs := ob.xs.take lo ++ ys ++ ob.xs.drop (lo + ys.length) }⟩]) (w' := w') d st ob { ob with xs := ob.xs.take lo ++ ys ++ ob.xs.drop (lo + ys.length) } hd
            (fun b k => b = (θ d).bl ∧ (θ d).off + lo * X.P.cellsOf e ≤ k ∧ k < (θ d).off + lo * X.P.cellsOf e + U.size)
            (fun _ => rfl) (by rw [len_applyAll]) (fun f => by simp only [applyAll_cons, applyAll_nil, getO_o]) (fun _ => rfl)
            (fun b k hb => by obtain ⟨rfl, q1, q2⟩ := hb; exact ⟨rfl, by omega, by omega⟩)
            (fun b k v hn hv => by rw [wout b k hn]; exact hv) hwf
            (fun b k hb => by
              obtain ⟨rfl, q1, q2⟩ := hb
              have := hμ0 (k - (θ d).off) (by omega)
              rwa [show (θ d).off + (k - (θ d).off) = k by omega] at this)
            (by
              rw [← hw']
              exact hi.frame.setCells _ _ _ (fun j hj => hi.mine d ob (by rw [hd]) _ _ (hin j (by simpa using hj))))
            (by
              have cases_ : ∀ (i : Nat) (x : AV), (ob.xs.take lo ++ ys ++ ob.xs.drop (lo + ys.length))[i]? = some x → (lo ≤ i ∧ i < lo + ys.length ∧ ys[i - lo]? = some x) ∨ (¬(lo ≤ i ∧ i < lo + ys.length) ∧ ob.xs[i]? = some x) := by
                intro i x hx
                rw [sp2] at hx
                split at hx
                · rename_i hi2; exact .inl ⟨hi2.1, hi2.2, hx⟩
                · rename_i hi2; exact .inr ⟨hi2, hx⟩
              refine ⟨hok.e, hok.pos, hok.cap, by simp only; rw [sp1]; exact hok.fit, hok.room, ?_, ?_, ?_, ?_, fun k hk => by rw [hwf]; exact hok.soft k hk, fun k hk _ => hμ0 k hk⟩
              · intro i x hx
                rcases cases_ i x hx with ⟨_, _, hx⟩ | ⟨_, hx⟩
                · rw [(hU.cells _ x hx).1]; exact he.symm
                · exact hok.size i x hx
              · intro _ i x hx
                rcases cases_ i x hx with ⟨_, _, hx⟩ | ⟨_, hx⟩
                · exact (hU.cells _ x hx).2
                · exact hok.one hvar i x hx
              · intro i j x c hx hc
                simp only
                rcases cases_ i x hx with ⟨q1, q2, hx⟩ | ⟨hn, hx⟩
                · obtain ⟨v, g1, g2⟩ := hU.val (i - lo) j x c hx hc
                  have hlt : (i - lo) * X.P.cellsOf e + j < U.size := (Array.getElem?_eq_some_iff.1 g1).1
                  have hw1 := win _ hlt
                  rw [g1] at hw1
                  have hmul : lo * X.P.cellsOf e + (i - lo) * X.P.cellsOf e = i * X.P.cellsOf e := by rw [← Nat.add_mul]; congr 1; omega
                  refine ⟨v, ?_, .val g2, fun _ => g2, fun hz' => by rw [hz] at hz'; cases hz'⟩
                  rw [he]
                  rw [show (θ d).off + i * X.P.cellsOf e + j = (θ d).off + lo * X.P.cellsOf e + ((i - lo) * X.P.cellsOf e + j) by omega]
                  exact hw1
                · obtain ⟨v, g1, g2, g3, g4⟩ := hok.cell i j x c hx hc
                  refine ⟨v, ?_, g2, g3, g4⟩
                  rw [wout _ _ (fun hw => ?_)]
                  · exact g1
                  · obtain ⟨_, q1, q2⟩ := hw
                    have hj : j < x.cells.length := (List.getElem?_eq_some_iff.1 hc).1
                    rw [hok.size i x hx, he] at hj
                    rw [he] at q1 q2
                    rcases Nat.lt_or_ge i lo with hil | hil
                    · have := Nat.mul_le_mul_right (X.P.cellsOf e) (show i + 1 ≤ lo by omega)
                      rw [Nat.add_mul, Nat.one_mul] at this
                      omega
                    · have := Nat.mul_le_mul_right (X.P.cellsOf e) (show lo + ys.length ≤ i by omega)
                      rw [Nat.add_mul] at this
                      omega
              · intro k hk
                by_cases hw2 : lo * X.P.cellsOf e ≤ k ∧ k < lo * X.P.cellsOf e + U.size
                · have := win (k - lo * X.P.cellsOf e) (by omega)
                  rw [show (θ d).off + lo * X.P.cellsOf e + (k - lo * X.P.cellsOf e) = (θ d).off + k by omega] at this
                  rw [this, Array.getElem?_eq_getElem (by omega)]
                  rfl
                · rw [wout _ _ (fun h => hw2 (by omega))]
                  exact hok.there k hk)
          refine ⟨.value (.int .i64 ys.length), .int .i64 ys.length, w', ?_, .inl rfl, θ, μ, hwr, .val (.int _ _)⟩
          simp [execOp, ho, resolve, invoke, builtin, hbv, hrun]
        · simp [R.run_fail] at hr
    · simp [R.run_fail] at hr
end
end Go.Vm
/- clear. -/
namespace Go.Vm

section
variable {X : Cx} {C : Fr} {o : Oper}

theorem size_zeroCells (z : Array Value) (n : Nat) : (Builtin.zeroCells z n).size = n * z.size := by simp [Builtin.zeroCells]

theorem zeroCells_one {z : Array Value} (h : ∀ v ∈ z.toList, v.oneCell' = true) (n : Nat) : ∀ v ∈ (Builtin.zeroCells z n).toList, v.oneCell' = true := by
  intro v hv
  simp only [Builtin.zeroCells, Array.toList_map, List.mem_map] at hv
  obtain ⟨k, hk, rfl⟩ := hv
  have hk' : k < n * z.size := by simpa using hk
  have hz : 0 < z.size := by
    rcases Nat.eq_zero_or_pos z.size with h0 | h0
    · rw [h0] at hk'; omega
    · exact h0
  have hm : k % z.size < z.size := Nat.mod_lt _ hz
  have : z[k % z.size]! = z[k % z.size] := by simp [hm]
  rw [this]
  exact h _ (by simp)

theorem sim_clear {t e : TypeId} {x : Operand} {x' : Opnd} (ho : o.op = .call { callee := .builtin .clear, args := #[x], argTypes := #[t] }) (hx : opnd X x = some x')
    (ht : X.P.underlying t = some (.slice e)) (hs : okSize X.P e = true) (hz : ((zeroP X.P e).any fun z => z.cells.length == X.P.cellsOf e && z.cells.all AV.one) = true) : Sim X C o (.clear (X.P.cellsOf e) x') := by
  intro orc θ μ σ a w v ws hi hr
  simp only [ROp.sem, R.run_bind, Opnd.run_get, Option.bind_some] at hr
  have e1 := hi.ev rfl hx
  obtain ⟨hpos, _, ie, hie, hisz⟩ := okSize_spec hs
  cases hzz : zeroP X.P e with
  | none => rw [hzz] at hz; simp at hz
  | some z =>
    rw [hzz] at hz
    simp only [Option.any_some, Bool.and_eq_true, beq_iff_eq] at hz
    obtain ⟨hzl, hzo⟩ := hz
    obtain ⟨ie', zv, hie', hzero, rfl⟩ := zeroP_spec hzz
    rw [hie] at hie'
    cases hie'
    have hnz : nz [] (zeroAV zv) = zeroAV zv := by
      cases zeroAV zv <;> simp [nz, nz1, nzL]
    obtain ⟨z1, z2⟩ := zeroAV_RV (φ := X.φ) (μ := μ) [] (z := zv) (by rw [hnz]; exact hzo)
    rw [hnz] at z1 z2
    have hzvs : zv.cells.size = X.P.cellsOf e := by rw [← z1]; exact hzl
    have hone : ∀ v ∈ zv.cells.toList, v.oneCell' = true := by
      intro v hv
      obtain ⟨k, hk, rfl⟩ := List.mem_iff_getElem.1 hv
      have hk' : k < zv.cells.size := by simpa using hk
      have hkz : k < (zeroAV zv).cells.length := by rw [z1]; exact hk'
      refine (z2 k (zeroAV zv).cells[k] _ (List.getElem?_eq_getElem hkz) (by simp [hk'])).one ?_
      rw [List.all_eq_true] at hzo
      exact hzo _ (List.getElem_mem hkz)
    split at hr
    · rename_i d st lo ln hsv
      rw [hsv] at e1
      simp only [R.run_bind] at hr
      cases hob : (theObj d st).run σ with
      | none => simp [hob] at hr
      | some ob =>
        simp only [hob, Option.bind_some, run_frz] at hr
        split at hr
        · rename_i hc
          simp only [Bool.and_eq_true, beq_iff_eq, Bool.not_eq_true', decide_eq_true_eq] at hc
          obtain ⟨⟨he, hfz⟩, hlo⟩ := hc
          simp only [R.run_ret, Option.some.injEq, Prod.mk.injEq] at hr
          obtain ⟨rfl, rfl⟩ := hr
          have hd := run_theObj.1 hob
          have hok := hi.obj d ob (by rw [hd])
          obtain ⟨cap, hev, hroom⟩ := e1.spare_inv (viewOf_live hd)
          have hre : (θ d).e = X.P.cellsOf e := by rw [hok.e, he]
          rw [hre] at hroom hev
          rw [Nat.add_mul] at hroom
          generalize hU : Builtin.zeroCells zv.cells ln = U
          have hUsz : U.size = ln * X.P.cellsOf e := by rw [← hU, size_zeroCells, hzvs]
          have hUone : ∀ v ∈ U.toList, v.oneCell' = true := by rw [← hU]; exact zeroCells_one hone ln
          have hin : ∀ j, j < U.size → (θ d).Has (θ d).bl ((θ d).off + lo * X.P.cellsOf e + j) := fun j hj => ⟨rfl, by omega, by omega⟩
          have hthere : ∀ j, j < U.size → (w.cell? ⟨(θ d).bl, (θ d).off + lo * X.P.cellsOf e + j, none⟩).isSome = true := by
            intro j hj
            have := hok.there (lo * X.P.cellsOf e + j) (by omega)
            rwa [← Nat.add_assoc] at this
          have hsoft : ∀ j, j < U.size → w.frozen? ⟨(θ d).bl, (θ d).off + lo * X.P.cellsOf e + j, none⟩ = false := by
            intro j hj
            have := hok.soft (lo * X.P.cellsOf e + j) (by omega)
            rwa [← Nat.add_assoc] at this
          have hstore := run_storeCells_cells (P := X.P) (θ d).bl ((θ d).off + lo * X.P.cellsOf e) U.toList 0 w (fun j hj => by simpa using hthere j (by simpa using hj)) (fun j hj => by simpa using hsoft j (by simpa using hj)) hUone
          generalize hw' : w.setCells (θ d).bl ((θ d).off + lo * X.P.cellsOf e) U.toList = w' at hstore
          have hrun : (execOp a.eval o).run X.P w = .ok (.value (.tuple #[])) w' := by
            cases ln with
            | zero =>
              have : U = #[] := Array.eq_empty_of_size_eq_zero (by rw [hUsz]; simp)
              subst this
              have : w' = w := by rw [← hw']; rfl
              subst this
              simp [execOp, ho, resolve, invoke, builtin, Builtin.clear_, run_underlying ht, hev]
            | succ m =>
              have h0 : (storeCells ⟨(θ d).bl, (θ d).off + lo * X.P.cellsOf e, none⟩ (Builtin.zeroCells zv.cells (m + 1)).toList).run X.P w = .ok () w' := by rw [hU, ← hw']; simpa [hw'] using hstore
              simp [execOp, ho, resolve, invoke, builtin, Builtin.clear_, run_underlying ht, hev, zeroValue, typeInfo, hie, hzero, h0]
          have wout : ∀ b k, ¬(b = (θ d).bl ∧ (θ d).off + lo * X.P.cellsOf e ≤ k ∧ k < (θ d).off + lo * X.P.cellsOf e + U.size) → w'.cell? ⟨b, k, none⟩ = w.cell? ⟨b, k, none⟩ := by
            intro b k hn
            rw [← hw']
            refine World.cell?_setCells_out _ _ _ _ _ (fun hb _ => ?_)
            simp only at hb
            simp only [Array.length_toList]
            omega
          have win : ∀ j, j < U.size → w'.cell? ⟨(θ d).bl, (θ d).off + lo * X.P.cellsOf e + j, none⟩ = U[j]? := by
            intro j hj
            rw [← hw', World.cell?_setCells_in _ _ _ _ (fun i hi => hthere i (by simpa using hi)) j (by simpa using hj)]
            simp [hj]
          have hwf : ∀ b k, w'.frozen? ⟨b, k, none⟩ = w.frozen? ⟨b, k, none⟩ := fun b k => by rw [← hw']; exact World.frozen?_setCells _ _ _ _ _
          have hμ0 : ∀ k, k < (θ d).n → μ (θ d).bl ((θ d).off + k) = none := fun k hk => hok.free k hk (.inl hfz)
          have hwr := hi.write (σ' := σ) (w' := w') d st ob ob hd
            (fun b k => b = (θ d).bl ∧ (θ d).off + lo * X.P.cellsOf e ≤ k ∧ k < (θ d).off + lo * X.P.cellsOf e + U.size)
            (fun _ => rfl) rfl (fun f => by by_cases hf : f = d <;> simp [hf, hd]) (fun _ => rfl)
            (fun b k hb => by obtain ⟨rfl, q1, q2⟩ := hb; exact ⟨rfl, by omega, by omega⟩)
            (fun b k v hn hv => by rw [wout b k hn]; exact hv) hwf
            (fun b k hb => by
              obtain ⟨rfl, q1, q2⟩ := hb
              have := hμ0 (k - (θ d).off) (by omega)
              rwa [show (θ d).off + (k - (θ d).off) = k by omega] at this)
            (by
              rw [← hw']
              exact hi.frame.setCells _ _ _ (fun j hj => hi.mine d ob (by rw [hd]) _ _ (hin j (by simpa using hj))))
            (by
              refine ⟨hok.e, hok.pos, hok.cap, hok.fit, hok.room, hok.size, hok.one, ?_, ?_, fun k hk => by rw [hwf]; exact hok.soft k hk, fun k hk _ => hμ0 k hk⟩
              · intro i j x c hx hc
                obtain ⟨v, g1, g2, g3, g4⟩ := hok.cell i j x c hx hc
                refine ⟨v, ?_, g2, g3, g4⟩
                rw [wout _ _ (fun hw => ?_)]
                · exact g1
                · obtain ⟨_, q1, q2⟩ := hw
                  have hj : j < x.cells.length := (List.getElem?_eq_some_iff.1 hc).1
                  rw [hok.size i x hx, he] at hj
                  rw [he] at q1
                  have hil : i < ob.xs.length := (List.getElem?_eq_some_iff.1 hx).1
                  have := Nat.mul_le_mul_right (X.P.cellsOf e) (show i + 1 ≤ lo by omega)
                  rw [Nat.add_mul, Nat.one_mul] at this
                  omega
              · intro k hk
                by_cases hw2 : lo * X.P.cellsOf e ≤ k ∧ k < lo * X.P.cellsOf e + U.size
                · have := win (k - lo * X.P.cellsOf e) (by omega)
                  rw [show (θ d).off + lo * X.P.cellsOf e + (k - lo * X.P.cellsOf e) = (θ d).off + k by omega] at this
                  rw [this, Array.getElem?_eq_getElem (by omega)]
                  rfl
                · rw [wout _ _ (fun h => hw2 (by omega))]
                  exact hok.there k hk)
          exact ⟨_, _, w', hrun, .inl rfl, θ, μ, hwr, .tuple [] #[] rfl (by simp)⟩
        · simp [R.run_fail] at hr
    · simp [R.run_fail] at hr
end
end Go.Vm
/- A slice of an array variable, which goes over into it. -/
namespace Go.Vm

theorem chunks_get (e : Nat) : ∀ (n : Nat) (cs : List AV), n * e ≤ cs.length → (chunks e n cs).length = n ∧ ∀ (i : Nat) (x : AV), (chunks e n cs)[i]? = some x → x.cells.length = e ∧ (∀ c ∈ x.cells, c ∈ cs) ∧ ∀ (j : Nat) (c : AV), x.cells[j]? = some c → cs[i * e + j]? = some c
  | 0, cs, _ => ⟨rfl, by simp [chunks]⟩
  | n + 1, cs, h => by
    rw [Nat.add_mul, Nat.one_mul] at h
    obtain ⟨h1, h2⟩ := chunks_get e n (cs.drop e) (by simp; omega)
    refine ⟨by simp [chunks, h1], fun i x hx => ?_⟩
    cases i with
    | zero =>
      simp [chunks] at hx
      subst hx
      refine ⟨by simp [AV.cells]; omega, fun c hc => List.mem_of_mem_take hc, fun j c hc => ?_⟩
      simp only [AV.cells, List.getElem?_take] at hc
      split at hc
      · simpa using hc
      · cases hc
    | succ i =>
      obtain ⟨k1, k2, k3⟩ := h2 i x (by simpa [chunks] using hx)
      refine ⟨k1, fun c hc => List.mem_of_mem_drop (k2 c hc), fun j c hc => ?_⟩
      have := k3 j c hc
      rw [List.getElem?_drop] at this
      rw [Nat.add_mul, Nat.one_mul, show i * e + e + j = e + (i * e + j) by omega]
      exact this

section
variable {X : Cx} {C : Fr} {o : Oper}

theorem sim_sliceArr {t e : TypeId} {n : Nat} {x : Operand} {lo hi : Option Operand} {x' : Opnd} {lo' hi' : Option Opnd} (ho : o.op = .slice t x lo hi none) (hx : opnd X x = some x')
    (hlo : optM (opnd X) lo = some lo') (hhi : optM (opnd X) hi = some hi') (ht : X.P.underlying t = some (.array n e)) (hs : okSize X.P e = true) :
    Sim X C o (.sliceArr n (X.P.cellsOf e) (isAggP X.P e) x' lo' hi') := by
  intro orc θ μ σ a w v ws hi0 hr
  simp only [ROp.sem, R.run_bind, Opnd.run_get, Option.bind_some] at hr
  have e1 := hi0.ev rfl hx
  obtain ⟨hpos, _, ie, hie, _⟩ := okSize_spec hs
  split at hr
  · rename_i d st hxv
    rw [hxv] at e1
    simp only [R.run_bind] at hr
    cases hob : (theObj d st).run σ with
    | none => simp [hob] at hr
    | some ob =>
      simp only [hob, Option.bind_some, run_frz] at hr
      split at hr
      · rename_i cs hxs
        simp only [R.run_bind] at hr
        cases hh : (bound n n hi').run σ with
        | none => simp [hh] at hr
        | some h1 =>
          simp only [hh, Option.bind_some] at hr
          cases hl : (bound h1 0 lo').run σ with
          | none => simp [hl] at hr
          | some l1 =>
            simp only [hl, Option.bind_some] at hr
            cases hq : (Vm.valR depth (.agg cs)).run σ with
            | none => simp [hq] at hr
            | some q =>
              obtain ⟨y, ds⟩ := q
              simp only [hq, Option.bind_some] at hr
              split at hr
              · rename_i hc
                simp only [Bool.and_eq_true, Bool.not_eq_true', beq_iff_eq, Bool.or_eq_true] at hc
                obtain ⟨⟨⟨⟨⟨⟨⟨hvar, hz⟩, hcl⟩, hagg⟩, hne⟩, hnd⟩, hone⟩, hyl⟩ := hc
                simp only [run_mk, Option.some.injEq, Prod.mk.injEq] at hr
                obtain ⟨rfl, rfl⟩ := hr
                have hne' : ¬ d = slot o.dst := by simpa using hne
                have hnds : d ∉ ds := fun hm => by rw [List.contains_iff_mem.2 hm] at hnd; cases hnd
                have hd := run_theObj.1 hob
                have hok := hi0.obj d ob (by rw [hd])
                have hx0 : ob.xs[0]? = some (.agg cs) := by rw [hxs]; rfl
                have hev := e1.ref_inv (viewOf_live hd)
                simp only [Nat.zero_mul, Nat.add_zero] at hev
                have hroom : n * X.P.cellsOf e ≤ (θ d).n := by
                  have h2 := hok.room
                  have h3 := hok.fit
                  rw [hxs] at h3
                  simp only [List.length_singleton] at h3
                  have h4 := hok.size 0 _ hx0
                  simp only [AV.cells] at h4
                  have h5 := Nat.mul_le_mul_right ob.e h3
                  omega
                -- the bounds
                have b2 := run_bound hi0 rfl hhi hh
                have b3 := run_bound hi0 rfl hlo hl
                have hh1 : h1 ≤ n := by rcases b2 with ⟨_, rfl, _⟩ | ⟨_, _, h2⟩ <;> omega
                have hl1 : l1 ≤ h1 := by rcases b3 with ⟨_, rfl, _⟩ | ⟨_, _, h2⟩ <;> omega
                have hrun : (execOp a.eval o).run X.P w = .ok (.value (.slice (some (if n = l1 then ⟨(θ d).bl, (θ d).off, none⟩ else Addr.add ⟨(θ d).bl, (θ d).off, none⟩ (l1 * X.P.cellsOf e))) (h1 - l1) (n - l1))) w := by
                  have hb := run_sliceBounds (P := X.P) (w := w) (isSlice := false) (len := n) (cap := n) (mx := none) (.inl ⟨rfl, rfl⟩) (BV.of (dflt := n) (dflt' := n) (lim' := n) b2 (fun _ e => e) (Nat.le_refl _)) (BV.of (dflt := 0) (dflt' := 0) (lim' := h1) b3 (fun _ e => e) (Nat.le_refl _)) (fun h => by cases h)
                  simp [execOp, ho, Instr.sliceAt, run_underlying ht, hev, Instr.sureAddr, hb, run_sizeOf w hie]
                -- what was read is shut
                obtain ⟨μ1, f1, f2, f3, f4⟩ := hi0.freezeAll ds
                generalize hσ1 : σ.applyAll (setFs ds) = σ1 at f2
                have hO1 : ∀ d, σ1.getO d = σ.getO d := by intro d; rw [← hσ1, setFs_O]
                have hT1 : ∀ n, σ1.getT n = σ.getT n := by intro d; rw [← hσ1, setFs_T]
                have hl1' : σ1.tm.length = σ.tm.length := by rw [← hσ1, len_applyAll]
                have hFd : σ1.getF d = false := by
                  rw [← hσ1, setFs_F]
                  have : ds.contains d = false := hnd
                  rw [this, hz]; rfl
                have hok1 := f2.obj d ob (by rw [hO1, hd])
                rw [hFd] at hok1
                -- the cells, by value
                have hcell : ∀ j, j < cs.length → ∃ u, w.cell? ⟨(θ d).bl, (θ d).off + j, none⟩ = some u ∧ Rep X.φ μ (viewOf σ θ) (cs.getD j .any) u := by
                  intro j hj
                  have hcj : (AV.agg cs).cells[j]? = some (cs.getD j .any) := by simp [AV.cells, hj]
                  obtain ⟨u, g1, g2, _⟩ := hok.cell 0 j _ _ hx0 hcj
                  exact ⟨u, by simpa using g1, g2⟩
                have hval : RV X.φ μ1 y (.agg ((List.range cs.length).map fun j => (w.cell? ⟨(θ d).bl, (θ d).off + j, none⟩).getD undef).toArray) := by
                  refine hi0.valR f1 depth _ _ ds _ hq (.agg _ _ (by simp) fun j c u hc hu => ?_) f3
                  have hj : j < cs.length := (List.getElem?_eq_some_iff.1 hc).1
                  obtain ⟨u', g1, g2⟩ := hcell j hj
                  simp only [List.getElem?_toArray, List.getElem?_map, List.getElem?_range hj, Option.map_some, Option.some.injEq] at hu
                  subst hu
                  rw [g1]
                  have : cs.getD j .any = c := by simp [List.getD_eq_getElem?_getD, hc]
                  rw [← this]
                  exact g2
                obtain ⟨v1, v2⟩ := hval.cells
                have hyc : ∀ (j : Nat) (c : AV), y.cells[j]? = some c → ∃ u, w.cell? ⟨(θ d).bl, (θ d).off + j, none⟩ = some u ∧ RV X.φ μ1 c u := by
                  intro j c hc
                  have hj : j < cs.length := by
                    have := (List.getElem?_eq_some_iff.1 hc).1
                    rw [← v1] at this
                    simpa [Value.cells] using this
                  obtain ⟨u', g1, _⟩ := hcell j hj
                  refine ⟨u', g1, v2 j c u' hc ?_⟩
                  simp only [Value.cells, List.getElem?_toArray, List.getElem?_map, List.getElem?_range hj, Option.map_some, g1, Option.getD_some]
                -- the elements
                generalize hxs' : (if isAggP X.P e = true then chunks (X.P.cellsOf e) n y.cells else y.cells) = xs
                have hel : xs.length = n ∧ ∀ (i : Nat) (x : AV), xs[i]? = some x → x.cells.length = X.P.cellsOf e ∧ x.cells.all AV.one = true ∧ ∀ (j : Nat) (c : AV), x.cells[j]? = some c → y.cells[i * X.P.cellsOf e + j]? = some c := by
                  rw [List.all_eq_true] at hone
                  cases hag : isAggP X.P e with
                  | true =>
                    rw [hag] at hxs'
                    simp only [if_true] at hxs'
                    subst hxs'
                    obtain ⟨c1, c2⟩ := chunks_get (X.P.cellsOf e) n y.cells (by omega)
                    refine ⟨c1, fun i x hx => ?_⟩
                    obtain ⟨k1, k2, k3⟩ := c2 i x hx
                    exact ⟨k1, by rw [List.all_eq_true]; exact fun c hc => hone c (k2 c hc), k3⟩
                  | false =>
                    rw [hag] at hxs' hagg
                    simp only [Bool.false_eq_true, if_false] at hxs'
                    subst hxs'
                    have he1 : X.P.cellsOf e = 1 := by simpa using hagg
                    rw [he1] at hyl ⊢
                    refine ⟨by omega, fun i x hx => ?_⟩
                    have hxo := hone x (List.mem_of_getElem? hx)
                    have hna : ∀ zs, x ≠ .agg zs := fun zs hz => by subst hz; cases hxo
                    rw [AV.cells_one hna]
                    refine ⟨rfl, by simp [hxo], fun j c hc => ?_⟩
                    cases j with
                    | zero => simp at hc; subst hc; simpa using hx
                    | succ j => simp at hc
                obtain ⟨el1, el2⟩ := hel
                generalize hσ' : σ.applyAll ((W.o d ⟨st, none⟩ :: setFs ds) ++ [.o (slot o.dst) ⟨(σ.getO (slot o.dst)).st + 1, some ⟨X.P.cellsOf e, xs, false, n⟩⟩, .f (slot o.dst) false]) = σ'
                have gO : ∀ f, σ'.getO f = if f = slot o.dst then ⟨(σ1.getO (slot o.dst)).st + 1, some ⟨X.P.cellsOf e, xs, false, n⟩⟩ else if some d = some f then ⟨(σ1.getO f).st, none⟩ else σ1.getO f := by
                  intro f
                  rw [← hσ', applyAll_append, mk_O, hO1]
                  split
                  · rfl
                  · rw [applyAll_cons, setFs_O, getO_o, hO1]
                    by_cases hf : f = d
                    · subst hf; simp [hd]
                    · have : ¬ d = f := fun h => hf h.symm
                      simp [hf, this]
                have hren := f2.renew (σ' := σ') (w' := w) (μ' := μ1) (some d) (slot o.dst) ⟨(θ d).bl, (θ d).off, n * X.P.cellsOf e, X.P.cellsOf e, n⟩ ⟨X.P.cellsOf e, xs, false, n⟩ false (fun _ _ => False)
                  (fun m => by rw [← hσ', applyAll_append, mk_T, applyAll_cons, setFs_T, hT1]; rfl) (by rw [← hσ', len_applyAll, hl1']) gO
                  (fun f => by rw [← hσ', applyAll_append, mk_F, applyAll_cons, setFs_F, ← hσ1, setFs_F]; rfl)
                  (fun g hg => by cases hg; exact ⟨ob, by rw [hO1, hd]⟩) (Mem.Le.refl μ1) (fun _ _ _ hm => .inl hm)
                  (fun b k hb => by
                    obtain ⟨q1, q2, q3⟩ := hb
                    simp only at q1 q2 q3
                    exact .inl ⟨d, rfl, q1, by omega, by omega⟩) (fun _ _ h => h.elim) (fun _ _ _ _ h => h) (fun _ _ _ => rfl) f2.sub f2.frame
                  (fun V' hV' => by
                    refine ⟨rfl, hpos, rfl, by simp only; omega, by simp only; omega, fun i x hx => (el2 i x hx).1, fun _ i x hx => (el2 i x hx).2.1, ?_, fun k hk => ?_, fun k hk => ?_, fun k hk _ => ?_⟩
                    · intro i j x c hx hc
                      obtain ⟨u, g1, g2⟩ := hyc _ c ((el2 i x hx).2.2 j c hc)
                      refine ⟨u, ?_, .val g2, fun _ => g2, fun hz => by cases hz⟩
                      simp only
                      rw [Nat.add_assoc]; exact g1
                    · simp only at hk ⊢; exact hok.there k (by omega)
                    · simp only at hk ⊢; exact hok.soft k (by omega)
                    · simp only at hk ⊢; exact hok1.free k (by omega) (.inl rfl))
                refine ⟨_, _, w, hrun, .inl rfl, _, μ1, hren, ?_⟩
                refine .sref (slot o.dst) _ l1 (h1 - l1) _ _ (n - l1) (view_mk (by rw [gO, if_pos rfl, hO1])) (by omega) ?_ ?_ ?_
                · simp only
                  rw [show l1 + (n - l1) = n by omega]
                  exact Nat.le_refl _
                · simp only; omega
                · intro hcn
                  rw [if_neg (by omega)]
                  simp only [Addr.add_mid]
              · simp [R.run_fail] at hr
      · simp [R.run_fail] at hr
  · simp [R.run_fail] at hr
end
end Go.Vm
