/- A machine of abstract values and a typed machine above it, both proved sound for any program: part 3. -/
import Derived.Test.YtjfiohdaeahdmaaV2
import Derived.Below
set_option linter.unusedVariables false
/- All operations that the machine has a counterpart of. -/
namespace Go.Vm

theorem guard_some {p : Prop} [Decidable p] {u : Unit} : (guard p : Option Unit) = some u ↔ p := by
  by_cases h : p
  · simp [guard, h]
  · simp only [guard, h, if_false, iff_false]
    intro h'
    cases h'

section
variable {X : Cx} {C : Fr} {orc : Oracle} {o : Oper}

theorem of_toList1 {α : Type} {a : Array α} {x : α} (h : a.toList = [x]) : a = #[x] := by
  cases a; simp at h; subst h; rfl
theorem of_toList2 {α : Type} {a : Array α} {x y : α} (h : a.toList = [x, y]) : a = #[x, y] := by
  cases a; simp at h; subst h; rfl

theorem sliceElem_some {P : Program} {t e : TypeId} (h : sliceElem P t = some e) : P.underlying t = some (.slice e) := by
  unfold sliceElem at h
  split at h
  · cases h; assumption
  · cases h

theorem cellsOf_info {P : Program} {t : TypeId} {i : TypeInfo} (h : P.info? t = some i) : P.cellsOf t = i.size := by
  simp [Program.cellsOf, h]

theorem built_ok {t : TypeId} {parts : Array (Nat × Operand)} {z : List AV} {ps : List (Nat × Nat × Opnd)} (ho : o.op = .build t parts) (hz : zeroP X.P t = some (.agg z))
    (h : (∃ fs, X.P.underlying t = some (.struct fs) ∧ (fs.toList.all fun f => (X.P.info? f.type).isSome) = true ∧ ps.length = parts.toList.length ∧
        ∀ (j : Nat) (p : Nat × Operand), parts.toList[j]? = some p → ∃ q f, ps[j]? = some q ∧ fs[p.1]? = some f ∧ q.1 = f.offset ∧ q.2.1 = X.P.cellsOf f.type ∧ opnd X p.2 = some q.2.2) ∨
      (∃ n e, X.P.underlying t = some (.array n e) ∧ (X.P.info? e).isSome = true ∧ ps.length = parts.toList.length ∧
        ∀ (j : Nat) (p : Nat × Operand), parts.toList[j]? = some p → ∃ q, ps[j]? = some q ∧ q.1 = p.1 * X.P.cellsOf e ∧ q.2.1 = X.P.cellsOf e ∧ opnd X p.2 = some q.2.2)) : Sim X C o (.build z ps) := by
  rcases h with ⟨fs, hu, hall, hl, hp⟩ | ⟨n, e, hu, hinfo, hl, hp⟩
  · have hpl : ∃ places, fs.toList.mapM (fun f => (X.P.info? f.type).map fun i => (f.offset, i.size)) = some places := by
      rw [List.all_eq_true] at hall
      generalize fs.toList = l at hall
      induction l with
      | nil => exact ⟨[], rfl⟩
      | cons f l ih =>
        obtain ⟨r, hr⟩ := ih fun x hx => hall x (by simp [hx])
        obtain ⟨i, hi⟩ := Option.isSome_iff_exists.1 (hall f (by simp))
        exact ⟨(f.offset, i.size) :: r, by simp [hi, hr]⟩
    obtain ⟨places, hpl⟩ := hpl
    obtain ⟨m1, m2⟩ := mapM_get hpl
    refine sim_build ho hz (fun i => places.toArray[i]?) ⟨hl, fun j p hj => ?_⟩ ?_
    · obtain ⟨q, f, g1, g2, g3, g4, g5⟩ := hp j p hj
      refine ⟨q, g1, ?_, g5⟩
      obtain ⟨y, k1, k2⟩ := m2 p.1 f (by simpa using g2)
      cases hi : X.P.info? f.type with
      | none => simp [hi] at k2
      | some i =>
        simp only [hi, Option.map_some, Option.some.injEq] at k2
        rw [List.getElem?_toArray, k1, g3, g4, cellsOf_info hi, k2]
    · intro vs l it h1 h2 B h3
      simp only [Program.built, h1, hu, h2, hpl, Value.cells]
      exact h3
  · obtain ⟨ie, hie⟩ := Option.isSome_iff_exists.1 hinfo
    refine sim_build ho hz (fun i => some (i * ie.size, ie.size)) ⟨hl, fun j p hj => ?_⟩ ?_
    · obtain ⟨q, g1, g2, g3, g4⟩ := hp j p hj
      refine ⟨q, g1, ?_, g4⟩
      rw [g2, g3, cellsOf_info hie]
    · intro vs l it h1 h2 B h3
      simp only [Program.built, h1, hu, h2, hie, Value.cells]
      exact h3

theorem opP_ok (hs : Sound X.P X.φ orc) (hphi : PhiOK X.P X.φ) {r : ROp} (h : opP X o = some r) : OpOK X C orc o r := by
  cases hop : o.op with
  | move x =>
    simp only [opP, hop, Option.map_eq_some_iff] at h
    obtain ⟨y, hy, rfl⟩ := h
    exact (sim_mv (.inl hop) hy).ok
  | assign x =>
    simp only [opP, hop, Option.map_eq_some_iff] at h
    obtain ⟨y, hy, rfl⟩ := h
    cases o.dst.any X.h.rehome.contains with
    | true => exact (sim_rehome hop hy).ok
    | false => exact (sim_mv (.inr hop) hy).ok
  | pick c a b =>
    simp only [opP, hop, Option.bind_eq_bind, Option.pure_def, Option.bind_eq_some_iff, Option.some.injEq] at h
    obtain ⟨c', hc, a', ha, b', hb, rfl⟩ := h
    exact (sim_pick hop hc ha hb).ok
  | alloc t =>
    simp only [opP, hop, Option.bind_eq_bind, Option.pure_def, Option.bind_eq_some_iff, Option.some.injEq, guard_some] at h
    obtain ⟨_, hs1, z, hz, _, hp, rfl⟩ := h
    exact (sim_alloc hop hz (by simpa using hp)).ok
  | box t x =>
    simp only [opP, hop, Option.bind_eq_bind, Option.pure_def, Option.bind_eq_some_iff, Option.some.injEq, guard_some] at h
    obtain ⟨_, hs1, y, hy, rfl⟩ := h
    exact (sim_box hop hy hs1).ok
  | build t parts =>
    simp only [opP, hop, Option.bind_eq_bind, Option.pure_def, Option.bind_eq_some_iff] at h
    obtain ⟨z, hz, h⟩ := h
    split at h
    · rename_i zs
      split at h
      · rename_i fs hu
        simp only [Option.bind_eq_some_iff, Option.some.injEq, guard_some] at h
        obtain ⟨_, hall, ps, hps, rfl⟩ := h
        obtain ⟨m1, m2⟩ := mapM_get hps
        refine (built_ok hop hz (.inl ⟨fs, hu, hall, m1, fun j p hj => ?_⟩)).ok
        obtain ⟨q, g1, g2⟩ := m2 j p hj
        simp only [Option.bind_eq_some_iff, Option.some.injEq] at g2
        obtain ⟨f, g2, y, g3, rfl⟩ := g2
        exact ⟨_, f, g1, g2, rfl, rfl, g3⟩
      · rename_i n e hu
        simp only [Option.bind_eq_some_iff, Option.some.injEq, guard_some] at h
        obtain ⟨_, hinfo, ps, hps, rfl⟩ := h
        obtain ⟨m1, m2⟩ := mapM_get hps
        refine (built_ok hop hz (.inr ⟨n, e, hu, hinfo, m1, fun j p hj => ?_⟩)).ok
        obtain ⟨q, g1, g2⟩ := m2 j p hj
        simp only [Option.bind_eq_some_iff, Option.some.injEq] at g2
        obtain ⟨y, g3, rfl⟩ := g2
        exact ⟨_, g1, rfl, rfl, g3⟩
      · cases h
    · cases h
  | buildSlice t len parts =>
    simp only [opP, hop, Option.bind_eq_bind, Option.pure_def, Option.bind_eq_some_iff, Option.some.injEq, guard_some, Bool.and_eq_true, decide_eq_true_eq] at h
    obtain ⟨e, he, _, ⟨hs1, hsm⟩, z, hz, sh, hsh, ps, hps, rfl⟩ := h
    obtain ⟨m1, m2⟩ := mapM_get hps
    refine (sim_buildSl hop (sliceElem_some he) hs1 hsm hz ⟨m1, fun j p hj => ?_⟩).ok
    obtain ⟨q, g1, g2⟩ := m2 j p hj
    simp only [Option.bind_eq_some_iff, Option.some.injEq] at g2
    obtain ⟨y, g3, rfl⟩ := g2
    exact ⟨_, g1, rfl, g3⟩
  | load t x =>
    simp only [opP, hop, Option.bind_eq_bind, Option.pure_def, Option.bind_eq_some_iff, Option.some.injEq, guard_some] at h
    obtain ⟨_, hs1, y, hy, rfl⟩ := h
    exact (sim_load hop hy hs1).ok
  | store t x v =>
    simp only [opP, hop, Option.bind_eq_bind, Option.pure_def, Option.bind_eq_some_iff, Option.some.injEq, guard_some] at h
    obtain ⟨_, hs1, sh, hsh, y, hy, u, hu, rfl⟩ := h
    exact (sim_store hop hy hu hs1).ok
  | nilCheck x =>
    simp only [opP, hop, Option.map_eq_some_iff] at h
    obtain ⟨y, hy, rfl⟩ := h
    exact (sim_nilck hop hy).ok
  | binOp op t x y u =>
    simp only [opP, hop] at h
    split at h
    · rename_i fs hu
      simp only [Option.bind_eq_bind, Option.pure_def, Option.bind_eq_some_iff, Option.some.injEq, guard_some, Bool.not_eq_true'] at h
      obtain ⟨_, hg, ks, hk, x', hx, y', hy, rfl⟩ := h
      exact (sim_eqAgg (neg := false) hop hx hy (by simp [isAggP, hu]) hk hg).ok
    · rename_i fs hu
      simp only [Option.bind_eq_bind, Option.pure_def, Option.bind_eq_some_iff, Option.some.injEq, guard_some, Bool.not_eq_true'] at h
      obtain ⟨_, hg, ks, hk, x', hx, y', hy, rfl⟩ := h
      exact (sim_eqAgg (neg := true) hop hx hy (by simp [isAggP, hu]) hk hg).ok
    · simp only [Option.bind_eq_bind, Option.pure_def, Option.bind_eq_some_iff, Option.some.injEq] at h
      obtain ⟨x', hx, y', hy, rfl⟩ := h
      exact (sim_bin hop hx hy (.inl rfl)).ok
    · simp only [Option.bind_eq_bind, Option.pure_def, Option.bind_eq_some_iff, Option.some.injEq] at h
      obtain ⟨x', hx, y', hy, rfl⟩ := h
      exact (sim_bin hop hx hy (.inl rfl)).ok
    · rename_i hu
      simp only [Option.bind_eq_bind, Option.pure_def, Option.bind_eq_some_iff, Option.some.injEq] at h
      obtain ⟨x', hx, y', hy, rfl⟩ := h
      exact (sim_bin hop hx hy (.inr (.inl ⟨rfl, hu⟩))).ok
    · rename_i e hu
      simp only [Option.bind_eq_bind, Option.pure_def, Option.bind_eq_some_iff, Option.some.injEq] at h
      obtain ⟨x', hx, y', hy, rfl⟩ := h
      exact (sim_bin hop hx hy (.inr (.inr ⟨rfl, e, hu⟩))).ok
    · cases h
  | unOp op t x =>
    simp only [opP, hop, Option.map_eq_some_iff] at h
    obtain ⟨y, hy, rfl⟩ := h
    exact (sim_un hop hy).ok
  | convert src dst x =>
    simp only [opP, hop, Option.bind_eq_bind, Option.pure_def, Option.bind_eq_some_iff] at h
    obtain ⟨y, hy, h⟩ := h
    split at h
    · rename_i h1 h2
      cases h
      exact (sim_conv hop hy h1 h2).ok
    · rename_i h1 h2
      cases h
      exact (sim_toStr_str hop hy h1 h2).ok
    · rename_i e h1 h2
      split at h
      · rename_i h3
        cases h
        exact (sim_toStr_bytes hop hy h1 h3 h2).ok
      · cases h
    · rename_i e h1 h2
      split at h
      · rename_i h3
        cases h
        exact (sim_toBytes hop hy h1 h2 h3).ok
      · cases h
    · cases h
  | makeSlice t l c =>
    simp only [opP, hop, Option.bind_eq_bind, Option.pure_def, Option.bind_eq_some_iff, Option.some.injEq, guard_some] at h
    obtain ⟨e, he, _, hs1, sh, hsh, z, hz, l', hl, c', hc, rfl⟩ := h
    exact (sim_mkSl hop (sliceElem_some he) hs1 hz hl hc).ok
  | slice t x lo hi mx =>
    simp only [opP, hop, Option.bind_eq_bind, Option.pure_def, Option.bind_eq_some_iff, guard_some] at h
    obtain ⟨y, hy, lo', hlo, hi', hhi, mx', hmx, _, hg, h⟩ := h
    have hmi : (mx.isNone || hi.isSome) = true := by
      have e1 := map_isSome_of hmx
      have e2 := map_isSome_of hhi
      cases mx <;> cases mx' <;> cases hi <;> cases hi' <;> simp_all
    split at h
    · rename_i hu
      cases h
      exact (sim_slice_str hop hy hlo hhi hmx hu).ok
    · rename_i e hu
      simp only [Option.bind_eq_some_iff, Option.some.injEq, guard_some] at h
      obtain ⟨_, hs1, rfl⟩ := h
      exact (sim_slice hop hy hlo hhi hmx hmi hu hs1).ok
    · rename_i n e hu
      simp only [Option.bind_eq_some_iff, Option.some.injEq, guard_some, Bool.and_eq_true] at h
      obtain ⟨_, ⟨hs1, hmn⟩, rfl⟩ := h
      have hm0 : mx = none := by
        have := map_isSome_of hmx
        cases mx <;> cases mx' <;> simp_all
      subst hm0
      exact (sim_sliceArr hop hy hlo hhi hu hs1).ok
    · cases h
  | fieldAddr t x i =>
    simp only [opP, hop, Option.bind_eq_bind, Option.pure_def] at h
    split at h
    · rename_i fs hu
      simp only [Option.bind_eq_some_iff, Option.some.injEq, guard_some] at h
      obtain ⟨f, hf, _, hs1, y, hy, rfl⟩ := h
      exact (sim_fld hop hy hu hf hs1).ok
    · cases h
  | field t x i =>
    simp only [opP, hop, Option.bind_eq_bind, Option.pure_def] at h
    split at h
    · rename_i fs hu
      simp only [Option.bind_eq_some_iff, Option.some.injEq, guard_some] at h
      obtain ⟨f, hf, _, hs1, y, hy, rfl⟩ := h
      exact (sim_fldV hop hy hu hf hs1).ok
    · cases h
  | indexAddr t x i =>
    simp only [opP, hop, Option.bind_eq_bind, Option.pure_def, Option.bind_eq_some_iff] at h
    obtain ⟨y, hy, i', hi, h⟩ := h
    split at h
    · rename_i e hu
      simp only [Option.bind_eq_some_iff, Option.some.injEq, guard_some] at h
      obtain ⟨_, hs1, rfl⟩ := h
      exact (sim_ixA hop hy hi hu hs1).ok
    · rename_i n e hu
      simp only [Option.bind_eq_some_iff, Option.some.injEq, guard_some] at h
      obtain ⟨_, hs1, rfl⟩ := h
      exact (sim_ixArr hop hy hi hu hs1).ok
    · cases h
  | index t x i =>
    simp only [opP, hop, Option.bind_eq_bind, Option.pure_def, Option.bind_eq_some_iff] at h
    obtain ⟨y, hy, i', hi, h⟩ := h
    split at h
    · rename_i hu
      cases h
      exact (sim_ixS hop hy hi hu).ok
    · rename_i n e hu
      simp only [Option.bind_eq_some_iff, Option.some.injEq, guard_some] at h
      obtain ⟨_, hs1, rfl⟩ := h
      exact (sim_ixV hop hy hi hu hs1).ok
    · cases h
  | extract x i =>
    simp only [opP, hop, Option.map_eq_some_iff] at h
    obtain ⟨y, hy, rfl⟩ := h
    exact (sim_ext hop hy).ok
  | makeFunc f first caps =>
    cases f with
    | func f =>
      simp only [opP, hop, Option.bind_eq_bind, Option.pure_def, Option.bind_eq_some_iff, Option.some.injEq] at h
      obtain ⟨g, hg, fs, hf, cs, hc, rfl⟩ := h
      exact (sim_mkfn hop hg hf hc).ok
    | _ => simp [opP, hop] at h
  | call c =>
    simp only [opP, hop] at h
    split at h
    · rename_i hcal
      split at h
      · rename_i x t hx ht
        have e : c = ⟨.builtin .len, #[x], #[t]⟩ := by
          cases c; simp only at hcal hx ht; rw [hcal, of_toList1 hx, of_toList1 ht]
        rw [e] at hop
        split at h
        · rename_i hu
          simp only [Option.bind_eq_bind, Option.pure_def, Option.bind_eq_some_iff, Option.some.injEq] at h
          obtain ⟨y, hy, rfl⟩ := h
          exact (sim_len_str hop hy hu).ok
        · rename_i e1 hu
          simp only [Option.bind_eq_bind, Option.pure_def, Option.bind_eq_some_iff, Option.some.injEq] at h
          obtain ⟨y, hy, rfl⟩ := h
          exact (sim_len_slice hop hy hu).ok
        · rename_i n e1 hu
          cases h
          exact (sim_len_arr hop hu).ok
        · cases h
      · cases h
    · rename_i hcal
      split at h
      · rename_i x y t u hx ht
        have e : c = ⟨.builtin .append, #[x, y], #[t, u]⟩ := by
          cases c; simp only at hcal hx ht; rw [hcal, of_toList2 hx, of_toList2 ht]
        rw [e] at hop
        simp only [Option.bind_eq_bind, Option.pure_def, Option.bind_eq_some_iff, guard_some, Bool.and_eq_true, decide_eq_true_eq] at h
        obtain ⟨el, hel, _, ⟨hs1, hb⟩, _, hz, h⟩ := h
        have hzs : (zeroP X.P el).isSome = true := by
          cases hzz : zeroP X.P el with
          | none => rw [hzz] at hz; simp at hz
          | some z => rfl
        have hzl : ∀ i zv, X.P.info? el = some i → i.zero = some zv → zv.cells.size = i.size := by
          intro i zv h1 h2
          have e1 : zeroP X.P el = some (zeroAV zv) := by simp [zeroP, h1, h2]
          rw [e1] at hz
          simp only [Option.any_some, beq_iff_eq] at hz
          rw [← (zeroAV_cells X.φ (fun _ _ => none) (fun _ => (0, none)) zv).1, hz, cellsOf_info h1]
        split at h
        · rename_i hu
          simp only [Option.bind_eq_some_iff, Option.some.injEq] at h
          obtain ⟨x', hx', y', hy', rfl⟩ := h
          exact (sim_app hop hx' hy' (sliceElem_some hel) (.inl hu) hs1 hb hzs hzl).ok
        · rename_i e' hu
          simp only [Option.bind_eq_some_iff, Option.some.injEq] at h
          obtain ⟨x', hx', y', hy', rfl⟩ := h
          exact (sim_app hop hx' hy' (sliceElem_some hel) (.inr ⟨e', hu⟩) hs1 hb hzs hzl).ok
        · cases h
      · cases h
    · rename_i hcal
      split at h
      · rename_i x y t u hx ht
        have e : c = ⟨.builtin .copy, #[x, y], #[t, u]⟩ := by
          cases c; simp only at hcal hx ht; rw [hcal, of_toList2 hx, of_toList2 ht]
        rw [e] at hop
        simp only [Option.bind_eq_bind, Option.pure_def, Option.bind_eq_some_iff, Option.some.injEq, guard_some] at h
        obtain ⟨el, hel, _, hs1, x', hx', y', hy', rfl⟩ := h
        exact (sim_copy hop hx' hy' (sliceElem_some hel) hs1).ok
      · cases h
    · rename_i hcal
      split at h
      · rename_i x t hx ht
        have e : c = ⟨.builtin .clear, #[x], #[t]⟩ := by
          cases c; simp only at hcal hx ht; rw [hcal, of_toList1 hx, of_toList1 ht]
        rw [e] at hop
        simp only [Option.bind_eq_bind, Option.pure_def, Option.bind_eq_some_iff, Option.some.injEq, guard_some] at h
        obtain ⟨el, hel, _, hs1, _, hz, x', hx', rfl⟩ := h
        exact (sim_clear hop hx' (sliceElem_some hel) hs1 hz).ok
      · cases h
    · rename_i hcal
      split at h
      · rename_i x y hx
        have e : c = ⟨.builtin (if true then .max else .min), #[x, y], c.argTypes⟩ := by
          cases c; simp only at hcal hx ⊢; rw [hcal, of_toList2 hx]; rfl
        rw [e] at hop
        simp only [Option.bind_eq_bind, Option.pure_def, Option.bind_eq_some_iff, Option.some.injEq] at h
        obtain ⟨x', hx', y', hy', rfl⟩ := h
        exact (sim_mm (m := true) hop hx' hy').ok
      · cases h
    · rename_i hcal
      split at h
      · rename_i x y hx
        have e : c = ⟨.builtin (if false then .max else .min), #[x, y], c.argTypes⟩ := by
          cases c; simp only at hcal hx ⊢; rw [hcal, of_toList2 hx]; rfl
        rw [e] at hop
        simp only [Option.bind_eq_bind, Option.pure_def, Option.bind_eq_some_iff, Option.some.injEq] at h
        obtain ⟨x', hx', y', hy', rfl⟩ := h
        exact (sim_mm (m := false) hop hx' hy').ok
      · cases h
    · rename_i f hcal
      simp only [Option.bind_eq_bind, Option.pure_def, Option.bind_eq_some_iff, Option.some.injEq, guard_some] at h
      obtain ⟨g, hg, fn, hfn, _, _, as, has, rfl⟩ := h
      exact ok_call hs hphi hop hcal hg (t := fun i => fn.params[i]?) has
    · rename_i f hne hcal
      simp only [Option.bind_eq_bind, Option.pure_def, Option.bind_eq_some_iff, Option.some.injEq] at h
      obtain ⟨y, hy, as, has, rfl⟩ := h
      exact ok_callv hs hphi hop hcal hy (t := fun i => c.argTypes[i]?) has
    · cases h
  | _ => simp [opP, hop] at h
end
end Go.Vm
/- What the machine answers holds of the program. -/
namespace Go.Vm

section
variable {P : Program} {φ : Phi} {S : Sys}

theorem opsOK (hphi : PhiOK P φ) (orc : Oracle) (hs : Sound P φ orc) : OpsOK P φ orc := by
  intro X C o r hP hφ h
  subst hP hφ
  exact opP_ok hs hphi h

theorem Sys.sound (hS : SysOK P φ S) (hphi : PhiOK P φ) (n : Nat) : Sound P φ (S.runN n) := runN_sound hS (opsOK hphi) n

/-! ### With no bound on the steps -/
/-- What one oracle knows of these questions, the other knows too. -/
def LeOn (qs : List Req) (a b : Oracle) : Prop := ∀ q ∈ qs, ∀ x, a q = some x → b q = some x

theorem LeOn.left {p q : List Req} {a b : Oracle} (h : LeOn (p ++ q) a b) : LeOn p a b := fun r hr => h r (List.mem_append_left _ hr)
theorem LeOn.right {p q : List Req} {a b : Oracle} (h : LeOn (p ++ q) a b) : LeOn q a b := fun r hr => h r (List.mem_append_right _ hr)

/-- Few questions are asked. -/
def RFin {α : Type} (o : Oracle) (f : Oracle → R α) : Prop := ∀ σ x, (f o).run σ = some x → ∃ qs, ∀ o', LeOn qs o o' → (f o').run σ = some x ∧ (f o').foot σ = (f o).foot σ

theorem R.foot_bind {α β : Type} (m : R α) (f : α → R β) (σ : State) : (m.bind f).foot σ = m.foot σ ++ (match m.run σ with | some a => (f a).foot σ | none => []) := by
  induction m with
  | ret a => rfl
  | fail => rfl
  | getT n k ih => simp only [R.bind, R.foot, R.run, ih]; rfl
  | getO d k ih => simp only [R.bind, R.foot, R.run, ih]; rfl
  | getF d k ih => simp only [R.bind, R.foot, R.run, ih]; rfl

theorem RFin.const {α : Type} {o : Oracle} (a : R α) : RFin o fun _ => a := fun _ _ h => ⟨[], fun _ _ => ⟨h, rfl⟩⟩
theorem RFin.bind {α β : Type} {o : Oracle} {f : Oracle → R α} {g : Oracle → α → R β} (h : RFin o f) (k : ∀ x, RFin o fun o => g o x) : RFin o fun o => (f o).bind (g o) := by
  intro σ y hy
  simp only [R.run_bind] at hy
  cases ha : (f o).run σ with
  | none => simp [ha] at hy
  | some x =>
    simp only [ha, Option.bind_some] at hy
    obtain ⟨q1, h1⟩ := h σ x ha
    obtain ⟨q2, h2⟩ := k x σ y hy
    refine ⟨q1 ++ q2, fun o' ho => ?_⟩
    obtain ⟨g1, g2⟩ := h1 o' ho.left
    obtain ⟨g3, g4⟩ := h2 o' ho.right
    refine ⟨by rw [R.run_bind, g1]; exact g3, ?_⟩
    rw [R.foot_bind, R.foot_bind, ha, g1, g2]
    simp only [g4]

theorem callR_fin {o : Oracle} (t g : Nat) (ss : List Sent) : RFin o fun o => callR o t g ss := by
  intro σ x hx
  refine ⟨[.call g (ss.map (·.a))], fun o' h => ?_⟩
  unfold callR at hx ⊢
  simp only at hx ⊢
  split at hx
  · rename_i hc
    simp only [hc, if_true]
    split at hx
    · rename_i r hr
      rw [h _ (by simp) _ hr]
      exact ⟨hx, by simp only⟩
    · simp [R.run_fail] at hx
  · simp [R.run_fail] at hx

theorem sem_fin {o : Oracle} (dst : Option Nat) (r : ROp) : RFin o fun o => r.sem o dst := by
  cases r with
  | call g args =>
    simp only [ROp.sem]
    exact (RFin.const _).bind fun ss => callR_fin _ _ _
  | callv f args =>
    simp only [ROp.sem]
    refine (RFin.const _).bind fun a => ?_
    split
    · exact (RFin.const _).bind fun _ => (RFin.const _).bind fun _ => (RFin.const _).bind fun _ => callR_fin _ _ _
    · exact RFin.const _
  | _ => exact RFin.const _

theorem ins_fin {o : Oracle} (i : Ins) : RFin o fun o => i.sem o := by
  unfold Ins.sem
  have hm : RFin o fun o => (i.op.sem o i.dst).bind fun q => R.ret (q.2 ++ dstW i.dst q.1) := (sem_fin _ _).bind fun _ => RFin.const _
  cases i.guard with
  | none => exact hm
  | some gw =>
    obtain ⟨g, want⟩ := gw
    intro σ x hx
    simp only [R.run, R.foot] at hx ⊢
    split at hx
    · rename_i b hb
      split at hx
      · rename_i hc
        simp only [hc, if_true]
        obtain ⟨qs, h⟩ := hm σ x hx
        exact ⟨qs, fun o' ho => ⟨(h o' ho).1, by rw [(h o' ho).2]⟩⟩
      · rename_i hc
        simp only [hc]
        exact ⟨[], fun _ _ => ⟨hx, rfl⟩⟩
    · exact ⟨[], fun _ _ => ⟨hx, rfl⟩⟩
    · simp [R.run_fail] at hx

theorem runIns_fin {o : Oracle} : ∀ (is : List Ins) (σ σ' : State), runIns o is σ = some σ' → ∃ qs, ∀ o', LeOn qs o o' → runIns o' is σ = some σ' ∧ runFoot o' is σ = runFoot o is σ
  | [], σ, σ', hr => ⟨[], fun _ _ => ⟨hr, rfl⟩⟩
  | i :: is, σ, σ', hr => by
    simp only [runIns] at hr ⊢
    cases hi : (i.sem o).run σ with
    | none => simp [hi] at hr
    | some ws =>
      simp only [hi] at hr
      obtain ⟨q1, h1⟩ := ins_fin i σ ws hi
      obtain ⟨q2, h2⟩ := runIns_fin is _ _ hr
      refine ⟨q1 ++ q2, fun o' ho => ?_⟩
      obtain ⟨k1, k2⟩ := h1 o' ho.left
      obtain ⟨g1, g2⟩ := h2 o' ho.right
      refine ⟨by rw [k1]; exact g1, ?_⟩
      simp only [runFoot, hi, k1, k2, g2]

theorem interp_fin {o : Oracle} : ∀ (c : RCode) (σ : State) (x : Ex × State), interp o c σ = some x → ∃ qs, ∀ o', LeOn qs o o' → interp o' c σ = some x := by
  intro c
  induction c with
  | skip => intro σ x hx; exact ⟨[], fun _ _ => hx⟩
  | ret => intro σ x hx; exact ⟨[], fun _ _ => hx⟩
  | exit id => intro σ x hx; exact ⟨[], fun _ _ => hx⟩
  | seq a b iha ihb =>
    intro σ x hx
    simp only [interp] at hx ⊢
    split at hx
    · rename_i σ1 h1
      obtain ⟨q1, k1⟩ := iha σ _ h1
      obtain ⟨q2, k2⟩ := ihb σ1 x hx
      exact ⟨q1 ++ q2, fun o' ho => by rw [k1 o' ho.left]; exact k2 o' ho.right⟩
    · rename_i hne
      obtain ⟨q1, k1⟩ := iha σ x hx
      refine ⟨q1, fun o' ho => ?_⟩
      rw [k1 o' ho]
      split
      · rename_i σ1 he
        cases he
        exact absurd hx (hne _)
      · rfl
  | cond c a b iha ihb =>
    intro σ x hx
    simp only [interp] at hx ⊢
    split at hx
    · exact iha σ x hx
    · exact ihb σ x hx
    · cases hx
  | block id a ih =>
    intro σ x hx
    simp only [interp] at hx ⊢
    split at hx
    · rename_i id' σ1 h1
      obtain ⟨q1, k1⟩ := ih σ _ h1
      exact ⟨q1, fun o' ho => by rw [k1 o' ho]; exact hx⟩
    · rename_i hne
      obtain ⟨q1, k1⟩ := ih σ x hx
      refine ⟨q1, fun o' ho => ?_⟩
      rw [k1 o' ho]
      split
      · rename_i id' σ1 he
        cases he
        exact absurd hx (hne _ _)
      · rfl
  | loop lv a ih =>
    intro σ x hx
    simp only [interp] at hx ⊢
    split at hx
    · rename_i e σ1 h1
      exact ⟨[.loop lv a σ], fun o' ho => by rw [ho _ (by simp) _ h1]; exact hx⟩
    · cases hx
  | region ins bef =>
    intro σ x hx
    simp only [interp] at hx ⊢
    cases bef with
    | none =>
      simp only [Option.map_eq_some_iff] at hx ⊢
      obtain ⟨σ1, h1, h2⟩ := hx
      obtain ⟨qs, k⟩ := runIns_fin _ _ _ h1
      exact ⟨qs, fun o' ho => ⟨σ1, (k o' ho).1, h2⟩⟩
    | some bs =>
      simp only at hx ⊢
      split at hx
      · rename_i σ1 h1
        obtain ⟨qs, k⟩ := runIns_fin _ _ _ h1
        refine ⟨qs, fun o' ho => ?_⟩
        rw [(k o' ho).1, (k o' ho).2]
        exact hx
      · cases hx

theorem callFn_fin {o : Oracle} (F : RFunc) (args : List AV) (r : Res) (hr : callFn o F args = some r) : ∃ qs, ∀ o', LeOn qs o o' → callFn o' F args = some r := by
  unfold callFn at hr ⊢
  split at hr
  · rename_i hc
    simp only [hc, and_self, if_true]
    cases he : entry F.nt args with
    | none => simp [he] at hr
    | some σ0 =>
      simp only [he] at hr ⊢
      split at hr
      · rename_i σ h1
        obtain ⟨qs, k⟩ := interp_fin _ _ _ h1
        exact ⟨qs, fun o' ho => by rw [k o' ho]; exact hr⟩
      · rename_i σ h1
        obtain ⟨qs, k⟩ := interp_fin _ _ _ h1
        exact ⟨qs, fun o' ho => by rw [k o' ho]; exact hr⟩
      · cases hr
  · cases hr

theorem step_fin {o : Oracle} (q : Req) (x : Out) (hx : S.step o q = some x) : ∃ qs, ∀ o', LeOn qs o o' → S.step o' q = some x := by
  cases q with
  | loop lv a σ =>
    simp only [Sys.step] at hx ⊢
    split at hx
    · rename_i σ1 h1
      obtain ⟨qs, k⟩ := interp_fin _ _ _ h1
      exact ⟨qs ++ [.loop lv a σ1], fun o' ho => by rw [k o' ho.left]; exact ho.right _ (by simp) _ hx⟩
    · rename_i e σ1 hne h1
      obtain ⟨qs, k⟩ := interp_fin _ _ _ h1
      refine ⟨qs, fun o' ho => ?_⟩
      rw [k o' ho]
      split
      · rename_i he; cases he; exact absurd rfl hne
      · rename_i he; cases he; exact hx
      · rename_i he; cases he
    · cases hx
  | call g args =>
    simp only [Sys.step] at hx ⊢
    cases hp : S.prim g with
    | some p => exact ⟨[], fun _ _ => by simpa [hp] using hx⟩
    | none =>
      simp only [hp] at hx ⊢
      cases hF : S.fn g with
      | none => simp [hF] at hx
      | some F =>
        simp only [hF, Option.map_eq_some_iff] at hx ⊢
        obtain ⟨r, h1, h2⟩ := hx
        obtain ⟨qs, k⟩ := callFn_fin F args r h1
        exact ⟨qs, fun o' ho => ⟨r, k o' ho, h2⟩⟩

theorem step_mono {o o' : Oracle} (h : ∀ q x, o q = some x → o' q = some x) (q : Req) (x : Out) (hx : S.step o q = some x) : S.step o' q = some x := by
  obtain ⟨qs, k⟩ := step_fin q x hx
  exact k o' fun q _ x hx => h q x hx

theorem runN_mono : ∀ n q x, S.runN n q = some x → S.runN (n + 1) q = some x
  | 0 => fun _ _ h => (by cases h)
  | n + 1 => fun q x h => step_mono (runN_mono n) q x h

theorem runN_le {n m : Nat} (h : n ≤ m) : ∀ q x, S.runN n q = some x → S.runN m q = some x := by
  induction h with
  | refl => exact fun _ _ h => h
  | step _ ih => exact fun q x hx => runN_mono _ q x (ih q x hx)

/-- The answer after some number of steps. -/
def Sys.Says (S : Sys) (q : Req) (x : Out) : Prop := ∃ n, S.runN n q = some x

theorem Says.unique {q : Req} {x y : Out} (h : S.Says q x) (k : S.Says q y) : x = y := by
  obtain ⟨n, h⟩ := h
  obtain ⟨m, k⟩ := k
  have h1 := runN_le (Nat.le_max_left n m) q x h
  have h2 := runN_le (Nat.le_max_right n m) q y k
  rw [h1] at h2
  exact Option.some.inj h2

open Classical in
/-- All that is ever said. -/
noncomputable def Sys.lim (S : Sys) : Oracle := fun q => if h : ∃ x, S.Says q x then some (Classical.choose h) else none

theorem lim_iff {q : Req} {x : Out} : S.lim q = some x ↔ S.Says q x := by
  unfold Sys.lim
  split
  · rename_i h
    refine ⟨fun e => ?_, fun k => ?_⟩
    · cases e; exact Classical.choose_spec h
    · rw [Says.unique (Classical.choose_spec h) k]
  · rename_i h
    exact ⟨fun e => (by cases e), fun k => absurd ⟨x, k⟩ h⟩

/-- What follows from what is said is said. -/
theorem lim_of_step {q : Req} {x : Out} (h : S.step S.lim q = some x) : S.lim q = some x := by
  obtain ⟨qs, k⟩ := step_fin q x h
  have : ∀ (qs : List Req), ∃ n, LeOn qs S.lim (S.runN n) := by
    intro qs
    induction qs with
    | nil => exact ⟨0, fun q hq => by cases hq⟩
    | cons q qs ih =>
      obtain ⟨n, hn⟩ := ih
      cases hl : S.lim q with
      | none =>
        refine ⟨n, fun p hp x hx => ?_⟩
        simp only [List.mem_cons] at hp
        rcases hp with rfl | hp
        · rw [hl] at hx; cases hx
        · exact hn p hp x hx
      | some y =>
        obtain ⟨m, hm⟩ := lim_iff.1 hl
        refine ⟨max n m, fun p hp x hx => ?_⟩
        simp only [List.mem_cons] at hp
        rcases hp with rfl | hp
        · rw [hl] at hx; cases hx; exact runN_le (Nat.le_max_right n m) _ _ hm
        · exact runN_le (Nat.le_max_left n m) _ _ (hn p hp x hx)
  obtain ⟨n, hn⟩ := this qs
  exact lim_iff.2 ⟨n + 1, k _ hn⟩

/-- What is said of a call holds of the program. -/
theorem Sys.callOK (hS : SysOK P φ S) (hphi : PhiOK P φ) {g : Nat} {args : List AV} {r : Res} (h : S.lim (.call g args) = some (.res r)) : CallOK P φ g args r := by
  obtain ⟨n, hn⟩ := lim_iff.1 h
  exact (Sys.sound hS hphi n).call g args r hn
end
end Go.Vm
/- A call whose arguments go by value. -/
namespace Go.Vm

section
variable {P : Program} {φ : Phi} {S : Sys}

theorem Framed.below {w w' : World} (h : Framed w (Inside []) w') : RowKit.Below w.heap.size w w' where
  os := h.os
  tape := h.tape
  output := h.output
  size := h.size
  block k hk := by
    rcases h.same k hk with h1 | ⟨c, c', e, fz, h1, h2, h3, h4⟩
    · exact h1
    · have : c' = c := by
        apply Array.ext_getElem?
        intro i
        exact h4 i (fun ⟨r, hr, _⟩ => by cases hr)
      rw [h1, h2, this]

theorem args_by_value {μ : Mem} {w : World} : ∀ {args : List AV} {vals : List Value}, vals.length = args.length → (∀ (j : Nat) (a : AV) (v : Value), args[j]? = some a → vals[j]? = some v → RV φ μ a v) → ∃ Ls, ArgsOK φ μ w args vals Ls ∧ Ls.flatten = []
  | [], vals, h, _ => by
    have : vals = [] := List.length_eq_zero_iff.1 h
    subst this
    exact ⟨[], .nil, rfl⟩
  | a :: args, vals, h, hr => by
    cases vals with
    | nil => simp at h
    | cons v vals =>
      obtain ⟨Ls, h1, h2⟩ := args_by_value (by simpa using h) (fun j a v ha hv => hr (j + 1) a v (by simpa using ha) (by simpa using hv))
      exact ⟨[] :: Ls, .cons (.val (hr 0 a v rfl rfl)) h1, by simpa using h2⟩

/-- A call with arguments by value: the answer, in memory of its own. -/
theorem Sys.calls (hS : SysOK P φ S) (hphi : PhiOK P φ) {g : Nat} {f : FuncId} (hf : φ f = some g) {args : List AV} {r : Res} (h : S.lim (.call g args) = some (.res r)) {vals : List Value} {w : World} {μ : Mem}
    (hl : vals.length = args.length) (hv : ∀ (j : Nat) (a : AV) (v : Value), args[j]? = some a → vals[j]? = some v → RV φ μ a v) (hsub : ∀ b k v, μ b k = some v → w.cell? ⟨b, k, none⟩ = some v) :
    Calls P f vals.toArray w fun
      | .returned v, w' => RowKit.Below w.heap.size w w' ∧ ∃ μ' L, Own φ μ' w' r.val v L
      | .outgrown, _ => False
      | .panicked _, _ => False := by
  obtain ⟨Ls, h1, h2⟩ := args_by_value (w := w) hl hv
  refine (Sys.callOK hS hphi h f vals w μ Ls hf h1 (by rw [h2]; exact List.Pairwise.nil) (by rw [h2]; simp) hsub).mono fun e w' he => ?_
  cases e with
  | outgrown => exact he
  | panicked c => exact he
  | returned v =>
    obtain ⟨μ', Lr, Lbs, k1, k2, k3, k4, k5, _⟩ := he
    rw [h2] at k4
    exact ⟨k4.below, μ', Lr, k5⟩
end
end Go.Vm
/- Typed values, and what they are in the value machine. -/
namespace Go.Vm

/-- Types of values: 'st' is a struct whose fields are joined by 'pair'. -/
inductive Ty where
  | int (k : IntKind)
  | bool
  | str
  | list (e : Ty)
  | st (b : Ty)
  | pair (a b : Ty)
  | arr (n : Nat) (e : Ty)
  deriving DecidableEq, Inhabited, Repr

@[reducible] def Ty.D : Ty → Type
  | .int _ => Int
  | .bool => Bool
  | .str => List UInt8
  | .list e => List e.D
  | .st b => b.D
  | .pair a b => a.D × b.D
  | .arr n e => { l : List e.D // l.length = n }

def Ty.dflt : (t : Ty) → t.D
  | .int _ => (0 : Int)
  | .bool => false
  | .str => []
  | .list _ => []
  | .st b => b.dflt
  | .pair a b => (a.dflt, b.dflt)
  | .arr n e => ⟨List.replicate n e.dflt, List.length_replicate⟩

/-- The number of cells. -/
def Ty.width : Ty → Nat
  | .st b => b.width
  | .pair a b => a.width + b.width
  | .arr n e => n * e.width
  | _ => 1

def Ty.one : Ty → Bool
  | .st _ | .pair _ _ | .arr _ _ => false
  | _ => true

def enc1 (one : Bool) (cs : List AV) : AV := if one then cs.headD .any else .agg cs

def Ty.cells : (t : Ty) → t.D → List AV
  | .int k, n => [.int k n]
  | .bool, b => [.bool b]
  | .str, s => [.str s]
  | .list e, l => [.sl e.width (l.map fun x => enc1 e.one (e.cells x))]
  | .st b, x => b.cells x
  | .pair a b, x => a.cells x.1 ++ b.cells x.2
  | .arr _ e, l => (l.1.map fun x => e.cells x).flatten

def Ty.enc (t : Ty) (x : t.D) : AV := enc1 t.one (t.cells x)

/-- Where slices are among the cells, and the widths of their elements. -/
def Ty.shape : Ty → Shape
  | .list e => [some e.width]
  | .st b => b.shape
  | .pair a b => a.shape ++ b.shape
  | .arr n e => (List.replicate n e.shape).flatten
  | _ => [none]

/-- No slice in it. -/
def Ty.flat : Ty → Bool
  | .list _ => false
  | .st b => b.flat
  | .pair a b => a.flat && b.flat
  | .arr _ e => e.flat
  | _ => true

/-! ### Whole numbers and the like, by name -/
def iAdd (k : IntKind) (a b : Int) : Int := k.wrap (a + b)
def iSub (k : IntKind) (a b : Int) : Int := k.wrap (a - b)
def iMul (k : IntKind) (a b : Int) : Int := k.wrap (a * b)
def iQuo (k : IntKind) (a b : Int) : Int := k.wrap (a.tdiv b)
def iRem (_ : IntKind) (a b : Int) : Int := a.tmod b
def iAnd (k : IntKind) (a b : Int) : Int := k.wrap (BitVec.ofInt k.bits a &&& BitVec.ofInt k.bits b).toNat
def iOr (k : IntKind) (a b : Int) : Int := k.wrap (BitVec.ofInt k.bits a ||| BitVec.ofInt k.bits b).toNat
def iXor (k : IntKind) (a b : Int) : Int := k.wrap (BitVec.ofInt k.bits a ^^^ BitVec.ofInt k.bits b).toNat
def iAndNot (k : IntKind) (a b : Int) : Int := k.wrap (BitVec.ofInt k.bits a &&& ~~~BitVec.ofInt k.bits b).toNat
def iShl (k : IntKind) (a b : Int) : Int := k.wrap (a * 2 ^ (min b.toNat k.bits))
def iShr (k : IntKind) (a b : Int) : Int := a.fdiv (2 ^ (min b.toNat k.bits))
def iConv (k : IntKind) (a : Int) : Int := k.wrap a
def iMax (a b : Int) : Int := if b > a then b else a
def iMin (a b : Int) : Int := if b < a then b else a
def iAll (k : IntKind) : Int := if k.signed then -1 else k.max
def bEq (a b : Int) : Bool := a == b
def bNe (a b : Int) : Bool := a != b
def bLt (a b : Int) : Bool := a < b
def bLe (a b : Int) : Bool := a ≤ b
def bGt (a b : Int) : Bool := a > b
def bGe (a b : Int) : Bool := a ≥ b
def sEq (a b : List UInt8) : Bool := a == b
def sLt (a b : List UInt8) : Bool := Op.bytesLess a b
def bIff (a b : Bool) : Bool := a == b
def bIf (c a b : Bool) : Bool := if c then a else b
def vIf {α : Type} (c : Bool) (a b : α) : α := if c then a else b
def toBytes (s : List UInt8) : List Int := s.map fun b => (b.toNat : Int)
def ofBytes (l : List Int) : List UInt8 := l.map fun n => UInt8.ofNat n.toNat
def part {α : Type} (l : List α) (lo hi : Int) : List α := (l.drop lo.toNat).take (hi - lo).toNat
def rd {α : Type} (d : α) (l : List α) (i : Int) : α := l.getD i.toNat d
def wr {α : Type} (l : List α) (i : Int) (x : α) : List α := l.set i.toNat x
def arrRd {α : Type} {n : Nat} (d : α) (l : { l : List α // l.length = n }) (i : Int) : α := l.1.getD i.toNat d
def arrWr {α : Type} {n : Nat} (l : { l : List α // l.length = n }) (i : Int) (x : α) : { l : List α // l.length = n } := ⟨l.1.set i.toNat x, by rw [List.length_set]; exact l.2⟩
def mkL {α : Type} (n : Int) (x : α) : List α := List.replicate n.toNat x
def over {α : Type} (l : List α) (lo : Int) (m : List α) : List α := l.take lo.toNat ++ m ++ l.drop (lo.toNat + m.length)

/-! ### Payloads -/
inductive PT where
  | ty (t : Ty)
  | num
  deriving DecidableEq, Inhabited, Repr
@[reducible] def PT.D : PT → Type
  | .ty t => t.D
  | .num => Nat
def PT.dflt : (p : PT) → p.D
  | .ty t => t.dflt
  | .num => (0 : Nat)
structure DP where
  p : PT
  x : p.D

@[reducible] def pd : List PT → Type
  | [] => Unit
  | p :: ps => match ps with
    | [] => p.D
    | _ :: _ => p.D × pd ps
def pd.cons {p : PT} : {ps : List PT} → p.D → pd ps → pd (p :: ps)
  | [], x, _ => x
  | _ :: _, x, y => (x, y)
def pd.head {p : PT} : {ps : List PT} → pd (p :: ps) → p.D
  | [], x => x
  | _ :: _, x => x.1
def pd.tail {p : PT} : {ps : List PT} → pd (p :: ps) → pd ps
  | [], _ => ()
  | _ :: _, x => x.2
theorem pd.head_cons {p : PT} {ps : List PT} (x : p.D) (y : pd ps) : pd.head (pd.cons x y) = x := by cases ps <;> rfl
theorem pd.tail_cons {p : PT} {ps : List PT} (x : p.D) (y : pd ps) : pd.tail (pd.cons x y) = y := by cases ps <;> rfl

def pd.of : (ps : List PT) → List DP → Option (pd ps)
  | [], [] => some ()
  | p :: ps, ⟨q, x⟩ :: l => if h : q = p then (pd.of ps l).map fun y => pd.cons (h ▸ x) y else none
  | _, _ => none
def pd.to : (ps : List PT) → pd ps → List DP
  | [], _ => []
  | p :: ps, x => ⟨p, pd.head x⟩ :: pd.to ps (pd.tail x)
theorem pd.to_of : ∀ {ps : List PT} {l : List DP} {x : pd ps}, pd.of ps l = some x → pd.to ps x = l
  | [], [], _, _ => rfl
  | [], _ :: _, _, h => by simp [pd.of] at h
  | _ :: _, [], _, h => by simp [pd.of] at h
  | p :: ps, ⟨q, x⟩ :: l, y, h => by
    simp only [pd.of] at h
    split at h
    · rename_i e
      subst e
      simp only [Option.map_eq_some_iff] at h
      obtain ⟨z, h1, rfl⟩ := h
      simp only [pd.to, pd.head_cons, pd.tail_cons, pd.to_of h1]
    · cases h
def pd.dflt : (ps : List PT) → pd ps
  | [] => ()
  | p :: ps => pd.cons p.dflt (pd.dflt ps)
end Go.Vm
/- The typed machine: what is known of a state beforehand, and what is not, apart. -/
namespace Go.Vm

/-! ### Values, objects, states -/
inductive TC where
  | any
  | v (t : Ty) (x : t.D)
  | bc (b : Bool)
  | nil
  /-- A list that is only read; the slots where it may lie. -/
  | lst (e : Ty) (l : List e.D) (ds : List Slot)
  /-- All of the object of this name, or so many elements from a place on; may be nil. -/
  | own (d : Slot) (w : Option (Nat × Nat)) (mn : Bool)
  | spare (d : Slot)
  | vref (d : Slot) (off : Nat)
  | eref (d : Slot) (i : Nat) (off : Nat)
  | aref (d : Slot) (off n : Nat) (e : Ty) (j : Int) (off2 : Nat)
  | rp (t : Ty) (x : t.D) (off : Nat) (ds : List Slot)

inductive TV where
  | c (x : TC)
  | agg (cs : List TC)
  | fn (g : Nat) (fs cs : List TC)
  | tup (vs : List (Bool × List TC))

/-- An object; 'fz': it may be frozen; 's1': it is an argument's, with its first stamp. -/
inductive TO where
  | sl (e : Ty) (l : List e.D) (cap : Option Nat) (fz s1 : Bool)
  | var (agg : Bool) (cs : List TC) (fz s1 : Bool)
  | gone

/-- Objects have names, and slots where they may lie: different ones lie at different slots. -/
structure TState where
  tm : List TV
  ob : List (Nat × List Slot × TO)
  fp : List (List Key × List Key)

def lookT {α : Type} (d : Slot) : List (Slot × α) → Option α
  | [] => none
  | (d', s) :: r => if d' == d then some s else lookT d r

def TState.getT (τ : TState) (n : Nat) : TV := τ.tm.getD n (.c .any)
def TState.getO (τ : TState) (d : Nat) : Option TO := (lookT d τ.ob).map (·.2)
/-- Where the object may lie. -/
def TState.at_ (τ : TState) (d : Nat) : List Slot := ((lookT d τ.ob).map (·.1)).getD []

/-- The names of objects. -/
def TC.names : TC → List Nat
  | .own d _ _ | .spare d | .vref d _ | .eref d _ _ | .aref d _ _ _ _ _ => [d]
  | _ => []
/-- The slots whose content was read. -/
def TC.rslots : TC → List Slot
  | .lst _ _ ds | .rp _ _ _ ds => ds
  | _ => []

def TC.width : TC → Nat
  | .v t _ => t.width
  | _ => 1
def widths (cs : List TC) : Nat := cs.foldr (fun c n => c.width + n) 0

def meets (a b : List Nat) : Bool := a.any b.contains
def TC.drop (ns : List Nat) (ss : List Slot) (x : TC) : TC := if meets x.names ns || meets x.rslots ss then .any else x
def TV.mapC (f : TC → TC) : TV → TV
  | .c x => .c (f x)
  | .agg cs => .agg (cs.map f)
  | .fn g a b => .fn g (a.map f) (b.map f)
  | .tup vs => .tup (vs.map fun p => (p.1, p.2.map f))
def TO.mapC (f : TC → TC) : TO → TO
  | .var a cs fz s => .var a (cs.map f) fz s
  | o => o
def TState.mapC (f : TC → TC) (τ : TState) : TState := { τ with tm := τ.tm.map (TV.mapC f), ob := τ.ob.map fun p => (p.1, p.2.1, p.2.2.mapC f) }
/-- Objects of these names, and what was read at these slots, are forgotten. -/
def TState.drop (τ : TState) (ns : List Nat) (ss : List Slot) : TState :=
  let τ1 := τ.mapC (TC.drop ns ss)
  { τ1 with ob := τ1.ob.filter fun p => !ns.contains p.1 }
/-- The names of objects that may lie there. -/
def TState.namesAt (τ : TState) (ss : List Slot) : List Nat := (τ.ob.filter fun p => meets p.2.1 ss).map (·.1)
/-- What is at these slots is forgotten. -/
def TState.clear (τ : TState) (ss : List Slot) : TState := τ.drop (τ.namesAt ss) ss
/-- The object is given up. -/
def TState.kill (τ : TState) (d : Nat) : TState := τ.drop [d] (τ.at_ d)
def TState.putO (τ : TState) (d : Nat) (ss : List Slot) (o : TO) : TState := { τ with ob := (d, ss, o) :: τ.ob.filter fun p => !(p.1 == d) }
/-- A new object at a slot. -/
def TState.mkO (τ : TState) (d : Slot) (o : TO) : TState := (τ.drop (d :: τ.namesAt [d]) [d]).putO d [d] (o.mapC (TC.drop (d :: τ.namesAt [d]) [d]))
/-- What was read of the object is forgotten. -/
def TState.soil (τ : TState) (d : Nat) : TState := τ.drop [] (τ.at_ d)
/-- What is in the object is changed. -/
def TState.upd (τ : TState) (d : Nat) (o : TO) : TState := (τ.soil d).putO d (τ.at_ d) (o.mapC (TC.drop [] (τ.at_ d)))
def TO.freeze : TO → TO
  | .sl e l c _ s => .sl e l c true s
  | .var a cs _ s => .var a cs true s
  | .gone => .gone
/-- Objects that may lie there may be frozen. -/
def TState.freeze (τ : TState) (ss : List Slot) : TState := { τ with ob := τ.ob.map fun p => if meets p.2.1 ss then (p.1, p.2.1, p.2.2.freeze) else p }
def TState.setT (τ : TState) (n : Nat) (v : TV) : TState := { τ with tm := τ.tm.set n v }

/-! ### Trees -/
inductive Tree : Type → Type 1 where
  | ret {ρ : Type} (r : ρ) : Tree ρ
  | fail {ρ : Type} (why : Nat) (at_ : List TState := []) : Tree ρ
  | cnd {ρ : Type} (b : Bool) (x y : Tree ρ) : Tree ρ
  | req {ρ : Type} (p : Prop) (i : Decidable p) (x : Tree ρ) : Tree ρ
  | at {ρ α : Type} (d : α) (l : List α) (i : Int) (k : α → Tree ρ) : Tree ρ
  | bnd {ρ α : Type} (x : α) (k : α → Tree ρ) : Tree ρ
  | call {ρ α : Type} (d : α) (m : Option α) (k : α → Tree ρ) : Tree ρ
  | join {ρ α : Type} (id : Nat) (m : Tree (α ⊕ ρ)) (k : α → Tree ρ) : Tree ρ
  | loop {ρ σ α : Type} (id : Nat) (ds : σ) (da : α) (s : σ) (body : σ → Tree (σ ⊕ (α ⊕ ρ))) (k : α → Tree ρ) : Tree ρ

def iter {σ α : Type} (f : σ → Option (σ ⊕ α)) : Nat → σ → Option α
  | 0, _ => none
  | n + 1, s => match f s with
    | some (.inl s') => iter f n s'
    | some (.inr a) => some a
    | none => none

open Classical in
/-- Round after round, with no bound. -/
noncomputable def loopLim {σ α : Type} (f : σ → Option (σ ⊕ α)) (s : σ) : Option α :=
  if h : ∃ a, ∃ n, iter f n s = some a then some (Classical.choose h) else none

noncomputable def Tree.den : {ρ : Type} → Tree ρ → Option ρ
  | _, .ret r => some r
  | _, .fail _ _ => none
  | _, .cnd b x y => if b then x.den else y.den
  | _, .req p i x => @_root_.ite _ p i x.den none
  | _, .at _ l i k => if 0 ≤ i then (match l[i.toNat]? with
    | some a => (k a).den
    | none => none) else none
  | _, .bnd x k => (k x).den
  | _, .call _ m k => m.bind fun a => (k a).den
  | _, .join _ m k => m.den.bind fun
    | .inl a => (k a).den
    | .inr r => some r
  | _, .loop _ _ _ s body k => (loopLim (fun s => (body s).den) s).bind fun
    | .inl a => (k a).den
    | .inr r => some r

def Tree.map {α : Type} : {ρ : Type} → (ρ → α) → Tree ρ → Tree α
  | _, f, .ret r => .ret (f r)
  | _, _, .fail w l => .fail w l
  | _, f, .cnd b x y => .cnd b (x.map f) (y.map f)
  | _, f, .req p i x => .req p i (x.map f)
  | _, f, .at d l i k => .at d l i fun a => (k a).map f
  | _, f, .bnd x k => .bnd x fun a => (k a).map f
  | _, f, .call d m k => .call d m fun a => (k a).map f
  | _, f, .join id m k => .join id (m.map fun x => match x with
    | .inl a => .inl a
    | .inr r => .inr (f r)) fun a => (k a).map f
  | _, f, .loop id ds da s body k => .loop id ds da s (fun s => (body s).map fun x => match x with
    | .inl a => .inl a
    | .inr (.inl b) => .inr (.inl b)
    | .inr (.inr r) => .inr (.inr (f r))) fun a => (k a).map f

/-! ### Types and cells -/
def Ty.tcs : (t : Ty) → t.D → List TC
  | .list e, l => [.lst e l []]
  | .st b, x => b.tcs x
  | .pair a b, x => a.tcs x.1 ++ b.tcs x.2
  | t, x => [.v t x]

/-- n times. -/
def repT {α : Type} (f : List TC → Option (α × List TC)) : (n : Nat) → List TC → Option ({ l : List α // l.length = n } × List TC)
  | 0, cs => some (⟨[], rfl⟩, cs)
  | n + 1, cs => match f cs with
    | some (x, r) => match repT f n r with
      | some (l, q) => some (⟨x :: l.1, by rw [List.length_cons, l.2]⟩, q)
      | none => none
    | none => none

/-- The first cells as one of a type: no memory in it. -/
def Ty.take : (t : Ty) → List TC → Option (t.D × List TC)
  | .bool, c :: r => match c with
    | .v .bool x => some (x, r)
    | .bc b => some (b, r)
    | _ => none
  | .int k, c :: r => match c with
    | .v (.int k') x => if k' = k then some (x, r) else none
    | _ => none
  | .str, c :: r => match c with
    | .v .str x => some (x, r)
    | _ => none
  | .list e, c :: r => match c with
    | .lst e' l _ => if h : e' = e then some (h ▸ l, r) else none
    | .nil => some ([], r)
    | _ => none
  | .st b, cs => b.take cs
  | .pair a b, cs => match a.take cs with
    | some (x, r) => match b.take r with
      | some (y, q) => some ((x, y), q)
      | none => none
    | none => none
  | .arr n e, cs => match cs with
    | .v (.arr n' e') x :: r => if h : n' = n ∧ e' = e then some (h.1 ▸ h.2 ▸ x, r) else none
    | cs => repT e.take n cs
  | _, [] => none

def Ty.of (t : Ty) (cs : List TC) : Option t.D := match t.take cs with
  | some (x, []) => some x
  | _ => none

/-- The cells from a place on. -/
def dropW : List TC → Nat → Option (List TC)
  | cs, 0 => some cs
  | [], _ + 1 => none
  | c :: cs, n + 1 => if c.width ≤ n + 1 then dropW cs (n + 1 - c.width) else none

/-- So many cells. -/
def takeW : List TC → Nat → Option (List TC)
  | _, 0 => some []
  | [], _ + 1 => none
  | c :: cs, n + 1 => if c.width ≤ n + 1 then (takeW cs (n + 1 - c.width)).map (c :: ·) else none

/-- .. replaced by others. -/
def putW (cs : List TC) (off n : Nat) (new : List TC) : Option (List TC) := match takeW cs off, dropW cs (off + n) with
  | some a, some b => if widths new = n then some (a ++ new ++ b) else none
  | _, _ => none

/-- An array among the cells as a whole. -/
def arrW (cs : List TC) (off n : Nat) (e : Ty) : Option (List TC) := if !e.flat then none else match takeW cs off, dropW cs off with
  | some a, some b => match (Ty.arr n e).take b with
    | some (x, r) => some (a ++ .v (.arr n e) x :: r)
    | none => none
  | _, _ => none

/-- By value; the slots that were read. -/
def TC.val (τ : TState) : TC → Option (TC × List Slot)
  | .v t x => some (.v t x, [])
  | .bc b => some (.bc b, [])
  | .nil => some (.nil, [])
  | .lst e l ds => some (.lst e l [], ds)
  | .own d w _ => match τ.getO d with
    | some (.sl e l _ _ _) => match w with
      | none => some (.lst e l [], τ.at_ d)
      | some (lo, n) => some (.lst e ((l.drop lo).take n) [], τ.at_ d)
    | _ => none
  | .rp t x off ds => some (.rp t x off [], ds)
  | _ => none

def valsC (τ : TState) : List TC → Option (List TC × List Slot)
  | [] => some ([], [])
  | c :: cs => match c.val τ, valsC τ cs with
    | some (x, a), some (xs, b) => some (x :: xs, a ++ b)
    | _, _ => none

/-! ### Functions -/
/-- A cell that is handed over. -/
inductive RK where
  | v (t : Ty)
  | lst (e : Ty)
  | own (e : Ty)
  deriving DecidableEq, Inhabited, Repr
def RK.ty : RK → Ty
  | .v t => t
  | .lst e | .own e => .list e
inductive AT where
  | val (t : Ty)
  | io (cin cout : List RK)
  | own (e : Ty) (back : Bool)
  | oagg (ks : List RK)
  | ro (t : Ty)
  | fn (g : Nat) (fs cs : List Ty)
  deriving DecidableEq, Inhabited, Repr
def rkPT (l : List RK) : List PT := l.map fun k => .ty k.ty
def AT.pts : AT → List PT
  | .val t => [.ty t]
  | .io c _ => rkPT c
  | .own e _ => [.ty (.list e)]
  | .oagg ks => rkPT ks
  | .ro t => [.ty t]
  | .fn _ a b => (a ++ b).map .ty
def AT.bpts : AT → List PT
  | .io _ c => rkPT c
  | .own e true => [.ty (.list e)]
  | _ => []
/-- A result: one cell, a struct, or a pointer to a variable of its own. -/
inductive RTag where
  | one
  | agg
  | ptr
  deriving DecidableEq, Inhabited, Repr
structure Sig where
  args : List AT
  res : List (RTag × List RK)
  deriving DecidableEq, Inhabited, Repr
def Sig.apt (s : Sig) : List PT := s.args.flatMap AT.pts
def Sig.rpt (s : Sig) : List PT := s.res.flatMap (fun p => rkPT p.2) ++ s.args.flatMap AT.bpts
structure FnT where
  sig : Sig
  f : pd sig.apt → Option (pd sig.rpt)

/-! ### What is kept where ways meet -/
inductive JK where
  | any
  | v (t : Ty)
  | bc (b : Bool)
  | nil
  | lst (e : Ty) (ds : List Slot)
  | own (d : Slot) (mn : Bool)
  | ownp (d : Slot) (mn : Bool)
  | spare (d : Slot)
  | vref (d : Slot) (off : Nat)
  | eref (d : Slot) (off : Nat)
  | rp (t : Ty) (off : Nat) (ds : List Slot)
  deriving DecidableEq, Inhabited, Repr
inductive JT where
  | c (k : JK)
  | agg (l : List JK)
  | fn (g : Nat) (a b : List JK)
  deriving DecidableEq, Inhabited, Repr
inductive JO where
  | sl (e : Ty) (fz s1 : Bool)
  | var (agg : Bool) (l : List JK) (fz s1 : Bool)
  | gone
  deriving DecidableEq, Inhabited, Repr
structure Ann where
  exit : Nat
  nt : Nat
  tm : List (Nat × JT)
  ob : List (Nat × List Slot × JO)
  deriving Inhabited

def JK.pts : JK → List PT
  | .v t => [.ty t]
  | .lst e _ => [.ty (.list e)]
  | .ownp _ _ => [.num, .num]
  | .eref _ _ => [.num]
  | .rp t _ _ => [.ty t]
  | _ => []
def JT.pts : JT → List PT
  | .c k => k.pts
  | .agg l => l.flatMap JK.pts
  | .fn _ a b => a.flatMap JK.pts ++ b.flatMap JK.pts
def JO.pts : JO → List PT
  | .sl e _ _ => [.ty (.list e)]
  | .var _ l _ _ => l.flatMap JK.pts
  | .gone => []
def Ann.pts (A : Ann) : List PT := A.ob.flatMap (fun p => p.2.2.pts) ++ A.tm.flatMap fun p => p.2.pts

def dpl (e : Ty) (l : List e.D) : DP := ⟨.ty (.list e), l⟩
def dpn (n : Nat) : DP := ⟨.num, n⟩

/-- Names here and names there. -/
abbrev Ren := List (Nat × Nat)
def Ren.add (r : Ren) (d d' : Nat) : Option Ren := match r.lookup d with
  | some x => if x = d' then some r else none
  | none => if r.any (fun p => p.2 == d') then none else some ((d, d') :: r)
def JK.ren (r : Ren) : JK → TC → Option Ren
  | .own d _, .own d' _ _ => r.add d d'
  | .ownp d _, .own d' _ _ => r.add d d'
  | .spare d, .spare d' => r.add d d'
  | .vref d _, .vref d' _ => r.add d d'
  | .eref d _, .eref d' _ _ => r.add d d'
  | _, _ => some r
def renL : Ren → List JK → List TC → Option Ren
  | r, k :: ks, c :: cs => match k.ren r c with
    | some r => renL r ks cs
    | none => none
  | r, _, _ => some r

def JK.dump (τ : TState) (r : Ren) : JK → TC → Option (List DP)
  | .any, c => if c.width = 1 then some [] else none
  | .v t, .v t' x => if t' = t then some [⟨.ty t', x⟩] else none
  | .v .bool, .bc b => some [⟨.ty .bool, b⟩]
  | .bc b, .bc b' => if b = b' then some [] else none
  | .nil, .nil => some []
  | .lst e ds, .lst e' l ds' => if e' = e ∧ ds'.all ds.contains then some [dpl e' l] else none
  | .lst e _, .nil => some [dpl e []]
  | .lst e ds, .own d w _ => if (τ.at_ d).all ds.contains then (match τ.getO d with
    | some (.sl e' l _ _ _) => if e' = e then (match w with
      | none => some [dpl e' l]
      | some (lo, n) => some [dpl e' ((l.drop lo).take n)]) else none
    | _ => none) else none
  | .own d mn, .own d' none mn' => if r.lookup d = some d' ∧ (mn' = true → mn = true) then some [] else none
  | .own d true, .nil => if r.lookup d = none then some [] else none
  | .ownp d mn, .own d' (some (lo, n)) mn' => if r.lookup d = some d' ∧ (mn' = true → mn = true) then some [dpn lo, dpn n] else none
  | .ownp d mn, .own d' none mn' => if r.lookup d = some d' ∧ (mn' = true → mn = true) then (match τ.getO d' with
    | some (.sl _ l _ _ _) => some [dpn 0, dpn l.length]
    | _ => none) else none
  | .spare d, .spare d' => if r.lookup d = some d' then some [] else none
  | .vref d off, .vref d' off' => if r.lookup d = some d' ∧ off = off' then some [] else none
  | .eref d off, .eref d' i off' => if r.lookup d = some d' ∧ off = off' then some [dpn i] else none
  | .rp t off ds, .rp t' x off' ds' => if t' = t ∧ off' = off ∧ ds'.all ds.contains then some [⟨.ty t', x⟩] else none
  | _, _ => none

def JK.fill : JK → List DP → Option (TC × List DP)
  | .any, l => some (.any, l)
  | .v t, ⟨.ty t', x⟩ :: l => if t' = t then some (.v t' x, l) else none
  | .bc b, l => some (.bc b, l)
  | .nil, l => some (.nil, l)
  | .lst e ds, ⟨.ty (.list e'), x⟩ :: l => if e' = e then some (.lst e' x ds, l) else none
  | .own d mn, l => some (.own d none mn, l)
  | .ownp d mn, ⟨.num, lo⟩ :: ⟨.num, n⟩ :: l => some (.own d (some (lo, n)) mn, l)
  | .spare d, l => some (.spare d, l)
  | .vref d off, l => some (.vref d off, l)
  | .eref d off, ⟨.num, i⟩ :: l => some (.eref d i off, l)
  | .rp t off ds, ⟨.ty t', x⟩ :: l => if t' = t then some (.rp t' x off ds, l) else none
  | _, _ => none

def dumpL (τ : TState) (r : Ren) : List JK → List TC → Option (List DP)
  | [], [] => some []
  | k :: ks, c :: cs => match k.dump τ r c, dumpL τ r ks cs with
    | some a, some b => some (a ++ b)
    | _, _ => none
  | _, _ => none
def fillL' : List JK → List DP → Option (List TC × List DP)
  | [], l => some ([], l)
  | k :: ks, l => match k.fill l with
    | some (c, r) => match fillL' ks r with
      | some (cs, q) => some (c :: cs, q)
      | none => none
    | none => none
/-- The cells, arrays made whole where they are wanted whole. -/
def fitW : List JK → List TC → Option (List TC)
  | [], [] => some []
  | [], _ :: _ => none
  | .v (.arr n e) :: ks, cs => if !e.flat then none else match (Ty.arr n e).take cs with
    | some (x, r) => (fitW ks r).map (TC.v (.arr n e) x :: ·)
    | none => none
  | _ :: ks, c :: cs => (fitW ks cs).map (c :: ·)
  | _ :: _, [] => none

def JT.ren (r : Ren) : JT → TV → Option Ren
  | .c k, .c x => k.ren r x
  | .agg ks, .agg cs => match fitW ks cs with
    | some cs => renL r ks cs
    | none => none
  | .fn _ a b, .fn _ a' b' => match renL r a a' with
    | some r => renL r b b'
    | none => none
  | _, _ => some r
def JT.dump (τ : TState) (r : Ren) : JT → TV → Option (List DP)
  | .c .any, _ => some []
  | .c k, .c x => k.dump τ r x
  | .agg ks, .agg cs => match fitW ks cs with
    | some cs => dumpL τ r ks cs
    | none => none
  | .fn g a b, .fn g' a' b' => if g = g' then (match dumpL τ r a a', dumpL τ r b b' with
    | some x, some y => some (x ++ y)
    | _, _ => none) else none
  | _, _ => none
def JT.fill : JT → List DP → Option (TV × List DP)
  | .c k, l => (k.fill l).map fun p => (.c p.1, p.2)
  | .agg ks, l => (fillL' ks l).map fun p => (.agg p.1, p.2)
  | .fn g a b, l => match fillL' a l with
    | some (x, r) => match fillL' b r with
      | some (y, q) => some (.fn g x y, q)
      | none => none
    | none => none
def JO.dump (τ : TState) (r : Ren) : JO → Option TO → Option (List DP)
  | .sl e fz s1, some (.sl e' l _ fz' s1') => if e' = e ∧ (fz' = true → fz = true) ∧ (s1 = true → s1' = true) then some [dpl e' l] else none
  | .sl e _ false, none => some [dpl e []]
  | .var a ks fz s1, some (.var a' cs fz' s1') => if a' = a ∧ (fz' = true → fz = true) ∧ (s1 = true → s1' = true) then (match fitW ks cs with
    | some cs => dumpL τ r ks cs
    | none => none) else none
  | .gone, some .gone => some []
  | _, _ => none
def JO.fill : JO → List DP → Option (TO × List DP)
  | .sl e fz s1, ⟨.ty (.list e'), x⟩ :: l => if e' = e then some (.sl e' x none fz s1, l) else none
  | .var a ks fz s1, l => (fillL' ks l).map fun p => (.var a p.1 fz s1, p.2)
  | .gone, l => some (.gone, l)
  | _, _ => none

def dumpT (τ : TState) (r : Ren) : List (Nat × JT) → Option (List DP)
  | [] => some []
  | (n, k) :: js => match k.dump τ r (τ.getT n), dumpT τ r js with
    | some a, some b => some (a ++ b)
    | _, _ => none
/-- The object that has this name there. -/
def dumpO (τ : TState) (r : Ren) : List (Nat × List Slot × JO) → Option (List DP)
  | [] => some []
  | (d, ss, k) :: js => match (match r.lookup d with
      | some d' => if (τ.at_ d').all ss.contains && (τ.getO d').isSome then k.dump τ r (τ.getO d') else none
      | none => k.dump τ r none), dumpO τ r js with
    | some a, some b => some (a ++ b)
    | _, _ => none
def renT (τ : TState) : Ren → List (Nat × JT) → Option Ren
  | r, [] => some r
  | r, (n, k) :: js => match k.ren r (τ.getT n) with
    | some r => renT τ r js
    | none => none
/-- An argument's, which keeps its name. -/
def JO.stays : JO → Bool
  | .sl _ _ s1 | .var _ _ _ s1 => s1
  | .gone => true
/-- Names that stay, and those in variables. -/
def renO (τ : TState) : Ren → List (Nat × List Slot × JO) → Option Ren
  | r, [] => some r
  | r, (d, _, k) :: js => match (match r.lookup d with
      | some _ => some r
      | none => if k.stays then r.add d d else some r) with
    | none => none
    | some r => match k, (r.lookup d).bind τ.getO with
      | .var _ ks _ _, some (.var _ cs _ _) => match fitW ks cs with
        | some cs => match renL r ks cs with
          | some r => renO τ r js
          | none => none
        | none => none
      | _, _ => renO τ r js
def fillT : List (Nat × JT) → List TV → List DP → Option (List TV × List DP)
  | [], tm, l => some (tm, l)
  | (n, k) :: r, tm, l => match k.fill l with
    | some (v, q) => fillT r (tm.set n v) q
    | none => none
def fillO : List (Nat × List Slot × JO) → List DP → Option (List (Nat × List Slot × TO) × List DP)
  | [], l => some ([], l)
  | (d, ss, k) :: r, l => match k.fill l with
    | some (o, q) => match fillO r q with
      | some (os, z) => some ((d, ss, o) :: os, z)
      | none => none
    | none => none

def nodupN : List Nat → Bool
  | [] => true
  | x :: xs => !xs.contains x && nodupN xs

/-- Objects that are not there yet get slots that nothing else has. -/
def freeS (r : Ren) : List Slot → List (Nat × List Slot × JO) → Bool
  | _, [] => true
  | used, (d, ss, _) :: js => match r.lookup d with
    | some _ => freeS r used js
    | none => match ss.find? fun s => !used.contains s with
      | some s => freeS r (s :: used) js
      | none => false
/-- What is named is there. -/
def JK.ok (ob : List (Nat × List Slot × JO)) : JK → Bool
  | .own d _ | .ownp d _ | .spare d | .eref d _ => ob.any fun p => p.1 == d && (match p.2.2 with
    | .sl _ _ _ => true
    | _ => false)
  | .vref d _ => ob.any fun p => p.1 == d && (match p.2.2 with
    | .var _ _ _ _ => true
    | _ => false)
  | _ => true
def JT.ok (ob : List (Nat × List Slot × JO)) : JT → Bool
  | .c k => k.ok ob
  | .agg l => l.all (JK.ok ob)
  | .fn _ a b => a.all (JK.ok ob) && b.all (JK.ok ob)
def JO.ok (ob : List (Nat × List Slot × JO)) : JO → Bool
  | .var a l _ _ => l.all (JK.ok ob) && (a || l.length == 1)
  | _ => true
def Ann.ok (A : Ann) : Bool := A.tm.all (fun p => p.2.ok A.ob) && A.ob.all fun p => p.2.2.ok A.ob

def Ann.pack (A : Ann) (τ : TState) : Option (pd A.pts) := match renT τ [] A.tm with
  | none => none
  | some r => match renO τ r A.ob with
    | none => none
    | some r => match dumpO τ r A.ob, dumpT τ r A.tm with
      | some a, some b => if A.nt = τ.tm.length ∧ nodupN (A.ob.map (·.1)) = true ∧ A.ok = true ∧ freeS r (A.ob.flatMap fun p => match r.lookup p.1 with
        | some d' => τ.at_ d'
        | none => []) A.ob = true then pd.of A.pts (a ++ b) else none
      | _, _ => none
def Ann.unpack (A : Ann) (x : pd A.pts) : Option TState := match fillO A.ob (pd.to A.pts x) with
  | some (os, l) => match fillT A.tm (List.replicate A.nt (.c .any)) l with
    | some (tm, []) => some ⟨tm, os, []⟩
    | _ => none
  | none => none
end Go.Vm
/- The typed machine: operations, code, functions. -/
namespace Go.Vm

structure TEnv where
  fn : Nat → List FnT
  ann : Nat → Option Ann
  ty : Nat → Ty

/-- By value. -/
def TC.byv : TC → Bool
  | .v _ _ | .bc _ | .nil => true
  | .lst _ _ ds => ds.isEmpty
  | _ => false

def constC : AV → TC
  | .int k n => .v (.int k) n
  | .bool b => .bc b
  | .str s => .v .str s
  | .nil => .nil
  | _ => .any
def constT : AV → TV
  | .agg cs => .agg (cs.map constC)
  | .fn g [] [] => .fn g [] []
  | a => .c (constC a)
def TState.val (τ : TState) : Opnd → TV
  | .t n => τ.getT n
  | .c a => constT a
def Opnd.keys : Opnd → List Key
  | .t n => [.t n]
  | .c _ => []
def oKeys (ds : List Slot) : List Key := ds.flatMap fun d => [.o d, .f d]
/-- .. of an object. -/
def TState.ks (τ : TState) (d : Nat) : List Key := oKeys (τ.at_ d)

/-- A whole number that is known beforehand. -/
def Opnd.lit : Opnd → Option Int
  | .c (.int _ n) => some n
  | _ => none

def asB : TV → Option Bool
  | .c (.v .bool b) => some b
  | .c (.bc b) => some b
  | _ => none
def asI : TV → Option (IntKind × Int)
  | .c (.v (.int k) n) => some (k, n)
  | _ => none
def asS : TV → Option (List UInt8)
  | .c (.v .str s) => some s
  | _ => none

def tInt (k : IntKind) (n : Int) : TV := .c (.v (.int k) n)
def tBool (b : Bool) : TV := .c (.v .bool b)
def tStr (s : List UInt8) : TV := .c (.v .str s)

section
variable {ρ : Type}

abbrev KT (ρ : Type) := TV → TState → List Key → List Key → Tree ρ

def reqI (lit : Option Int) (p : Int → Prop) [DecidablePred p] (n : Int) (x : Tree ρ) : Tree ρ := match lit with
  | some m => if p m then x else .fail 1
  | none => .req (p n) inferInstance x

def binI (op : BinOp) (k k' : IntKind) (a b : Int) (lb : Option Int) (go : TV → Tree ρ) : Tree ρ :=
  match op with
  | .shl => reqI lb (0 ≤ ·) b (go (tInt k (iShl k a b)))
  | .shr => reqI lb (0 ≤ ·) b (go (tInt k (iShr k a b)))
  | op => if k = k' then
      match op with
      | .add => go (tInt k (iAdd k a b))
      | .sub => go (tInt k (iSub k a b))
      | .mul => go (tInt k (iMul k a b))
      | .quo => reqI lb (· ≠ 0) b (go (tInt k (iQuo k a b)))
      | .rem => reqI lb (· ≠ 0) b (go (tInt k (iRem k a b)))
      | .and => go (tInt k (iAnd k a b))
      | .or => go (tInt k (iOr k a b))
      | .xor => go (tInt k (iXor k a b))
      | .andNot => go (tInt k (iAndNot k a b))
      | .eql => go (tBool (bEq a b))
      | .neq => go (tBool (bNe a b))
      | .lss => go (tBool (bLt a b))
      | .leq => go (tBool (bLe a b))
      | .gtr => go (tBool (bGt a b))
      | .geq => go (tBool (bGe a b))
      | _ => .fail 2
    else .fail 3

def binS (op : BinOp) (a b : List UInt8) (go : TV → Tree ρ) : Tree ρ :=
  match op with
  | .add => .req (a.length + b.length ≤ 9223372036854775807) inferInstance (go (tStr (a ++ b)))
  | .eql => go (tBool (sEq a b))
  | .neq => go (tBool (!(sEq a b)))
  | .lss => go (tBool (sLt a b))
  | .leq => go (tBool (sLt a b || sEq a b))
  | .gtr => go (tBool (!(sLt a b || sEq a b)))
  | .geq => go (tBool (!(sLt a b)))
  | _ => .fail 4

def eqT : List Nat → List TC → List TC → Option Bool
  | [], [], [] => some true
  | n :: ks, x :: xs, y :: ys => match eqT ks xs ys with
    | some r => match n, x, y with
      | 0, .v (.int k) a, .v (.int k') b => if k = k' then some (bEq a b && r) else none
      | 1, x, y => match asB (.c x), asB (.c y) with
        | some a, some b => some (bIff a b && r)
        | _, _ => none
      | 2, .v .str a, .v .str b => some (sEq a b && r)
      | _, _, _ => none
    | none => none
  | _, _, _ => none

/-- What a list reads as, and where it lies. -/
def elemsT (τ : TState) (e : Ty) : TV → Option (List e.D × List Slot)
  | .c .nil => some ([], [])
  | .c (.lst e' l ds) => if h : e' = e then some (h ▸ l, ds) else none
  | .c (.own d w _) => match τ.getO d with
    | some (.sl e' l _ _ _) => if h : e' = e then (match w with
      | none => some (h ▸ l, τ.at_ d)
      | some (lo, n) => some (((h ▸ l : List e.D).drop lo).take n, τ.at_ d)) else none
    | _ => none
  | .c (.v .str s) => if h : e = .int .u8 then some (h ▸ toBytes s, []) else none
  | _ => none

/-- The bounds of a slice, within a length. -/
def boundT (τ : TState) (len : Nat) : Option Opnd → Option (Option (Option Int × Int))
  | none => some none
  | some x => match asI (τ.val x) with
    | some (_, n) => some (some (x.lit, n))
    | none => none

/-- 0 ≤ lo ≤ hi ≤ len -/
def withBounds (len : Int) (lo hi : Option (Option Int × Int)) (x : Tree ρ) : Tree ρ :=
  match lo, hi with
  | none, none => x
  | some (l, n), none => if l = some 0 then x else .req (0 ≤ n ∧ n ≤ len) inferInstance x
  | none, some (_, h) => .req (0 ≤ h ∧ h ≤ len) inferInstance x
  | some (l, n), some (_, h) => if l = some 0 then .req (0 ≤ h ∧ h ≤ len) inferInstance x else .req (0 ≤ n ∧ n ≤ h ∧ h ≤ len) inferInstance x
def cutT {α : Type} (l : List α) : Option (Option Int × Int) → Option (Option Int × Int) → List α
  | none, none => l
  | some (_, n), none => l.drop n.toNat
  | none, some (_, h) => l.take h.toNat
  | some (_, n), some (_, h) => part l n h
def loN : Option (Option Int × Int) → Nat
  | none => 0
  | some (_, n) => n.toNat
def hiN (len : Nat) : Option (Option Int × Int) → Nat
  | none => len
  | some (_, n) => n.toNat
def viewT (n : Nat) : Option (Option Int × Int) → Option (Option Int × Int) → Option (Nat × Nat)
  | none, none => none
  | l, h => some (loN l, hiN n h - loN l)
def bKeys : Option Opnd → List Key
  | none => []
  | some x => x.keys

def takeT (n : Nat) (agg : Bool) (cs : List TC) : Option TV :=
  if agg then (takeW cs n).map .agg else match cs with
    | c :: _ => if c.width = 1 then some (.c c) else none
    | [] => none

/-- The cells of an argument by value. -/
def TV.cells : TV → Option (Bool × List TC)
  | .c x => some (false, [x])
  | .agg cs => some (true, cs)
  | _ => none


def cutW {α : Type} (w : Option (Nat × Nat)) (l : List α) : List α := match w with
  | none => l
  | some (lo, n) => (l.drop lo).take n
/-! ### Calls -/
/-- What is handed over: payload, names of what goes with it (or may), slots that may go, slots that are read. -/
structure SentT where
  pl : List DP
  mvN : List Nat
  mvS : List Slot
  rdS : List Slot
  mrS : List Slot    -- slots that are read instead, if they are frozen
  keys : List Slot
  back : Option (Nat × Nat × Nat)   -- a part of a variable, or a whole list

/-- The elements have a width. -/
def RK.okW : RK → Bool
  | .v _ => true
  | .lst e | .own e => e.width != 0
def RK.flatB : RK → Bool
  | .v t => t.flat
  | .own e => e.flat
  | .lst _ => false

/-- A cell that is exported: payload, names, slots that go or may go, slots that may be read instead. -/
def RK.exp (τ : TState) : RK → TC → Option (List DP × List Nat × List Slot × List Slot)
  | .v t, .v t' x => if t' = t ∧ t.flat = true then some ([⟨.ty t', x⟩], [], [], []) else none
  | .v .bool, .bc b => some ([⟨.ty .bool, b⟩], [], [], [])
  | .lst e, .lst e' l ds => if e' = e then some ([dpl e' l], [], ds, ds) else none
  | .lst e, .nil => some ([dpl e []], [], [], [])
  | .lst e, .own d w _ => match τ.getO d with
    | some (.sl e' l _ _ _) => if e' = e then some ([dpl e' (cutW w l)], [d], [], τ.at_ d) else none
    | _ => none
  | .own e, .own d w _ => match τ.getO d with
    | some (.sl e' l _ false _) => if e' = e then some ([dpl e' (cutW w l)], [d], [], []) else none
    | _ => none
  | .own e, .nil => some ([dpl e []], [], [], [])
  | _, _ => none
def expT (τ : TState) : List RK → List TC → Option (List DP × List Nat × List Slot × List Slot)
  | [], [] => some ([], [], [], [])
  | k :: ks, c :: cs => match k.exp τ c, expT τ ks cs with
    | some (a, b, c, d), some (x, y, z, w) => some (a ++ x, b ++ y, c ++ z, d ++ w)
    | _, _ => none
  | _, _ => none
def rkJ : RK → JK
  | .v t => .v t
  | .lst e => .lst e []
  | .own _ => .own 0 true
/-- .. with arrays made whole. -/
def expF (τ : TState) (ks : List RK) (cs : List TC) : Option (List DP × List Nat × List Slot × List Slot) := match fitW (ks.map rkJ) cs with
  | some cs => expT τ ks cs
  | none => none

/-- Its arrays hold no lists. -/
def Ty.aflat : Ty → Bool
  | .st b => b.aflat
  | .pair a b => a.aflat && b.aflat
  | .arr _ e => e.flat
  | _ => true
/-- A captured variable by value. -/
def capPl (τ : TState) : List Ty → List TC → Option (List DP × List Slot)
  | [], [] => some ([], [])
  | t :: ts, .vref d off :: cs => match τ.getO d with
    | some (.var _ vs _ _) => match dropW vs off with
      | some vs => match valsC τ vs with
        | some (vs, rd) => match t.of vs, capPl τ ts cs with
          | some y, some (l, r) => if vs.all TC.byv && t.aflat then some (⟨.ty t, y⟩ :: l, τ.at_ d ++ rd ++ r) else none
          | _, _ => none
        | none => none
      | none => none
    | _ => none
  | t :: ts, .rp t' x 0 [] :: cs => if t' = t then (match capPl τ ts cs with
    | some (l, r) => some (⟨.ty t', x⟩ :: l, r)
    | none => none) else none
  | _, _ => none

def nameKeys (τ : TState) (ns : List Nat) : List Slot := ns.flatMap τ.at_

def sendIoT (τ : TState) (d off n : Nat) (cin : List RK) : Option SentT := match τ.getO d with
  | some (.var _ cs false _) => match dropW cs off with
    | some cs1 => match takeW cs1 n with
      | some cs2 => match expF τ cin cs2 with
        | some (pl, ns, ss, mr) => if 0 < n then some ⟨pl, d :: ns, ss, [], mr, nameKeys τ (d :: ns) ++ ss, some (d, off, n)⟩ else none
        | none => none
      | none => none
    | none => none
  | _ => none

def sendT (τ : TState) (a : AT) (c : CArg) : Option SentT :=
  match a, c.mode, τ.val c.x with
  | .val t, .val, x => match x.cells with
    | some (ag, cs) => match valsC τ cs with
      | some (cs1, rd) => match t.of cs1 with
        | some y => if ag = !t.one ∧ c.sh = t.shape ∧ cs1.all TC.byv = true then some ⟨[⟨.ty t, y⟩], [], [], rd, [], rd, none⟩ else none
        | none => none
      | none => none
    | none => none
  | .io cin _, .io n, .c (.vref d off) => sendIoT τ d off n cin
  | .own e back, .own, .c (.own d none false) => match τ.getO d with
    | some (.sl e' l _ false _) => if e' = e then some ⟨[dpl e' l], [d], [], [], [], τ.at_ d, if back then some (d, 0, 0) else none⟩ else none
    | _ => none
  | .oagg ks, .own, .agg cs => match expF τ ks cs with
    | some (pl, ns, ss, mr) => if c.sh = ks.flatMap (fun k => k.ty.shape) ∧ ks.all RK.okW = true then some ⟨pl, ns, ss, [], mr, nameKeys τ ns ++ ss, none⟩ else none
    | none => none
  | .own e false, .own, .c .nil => if c.sh = [some e.width] ∧ e.width ≠ 0 then some ⟨[dpl e []], [], [], [], [], [], none⟩ else none
  | .fn g ta tc, .val, .fn g' fs cs => if g' = g then (match capPl τ ta fs, capPl τ tc cs with
    | some (x, r1), some (y, r2) => some ⟨x ++ y, [], [], r1 ++ r2, [], r1 ++ r2, none⟩
    | _, _ => none) else none
  | _, _, _ => none

/-- A captured variable, to a call. -/
def sendCapT (τ : TState) (a : AT) (c : TC) : Option SentT := match a, c with
  | .io cin _, .vref d 0 => match τ.getO d with
    | some (.var _ cs false _) => sendIoT τ d 0 (widths cs) cin
    | _ => none
  | .val t, c => match c.val τ with
    | some (x, rd) => match t.of [x] with
      | some y => if t.one && t.flat && x.byv then some ⟨[⟨.ty t, y⟩], [], [], rd, [], rd, none⟩ else none
      | none => none
    | none => none
  | .ro t, .rp t' x 0 [] => if t' = t then some ⟨[⟨.ty t', x⟩], [], [], [], [], [], none⟩ else none
  | _, _ => none

def sendsT (τ : TState) : List AT → List CArg → Option (List SentT)
  | [], [] => some []
  | a :: as, c :: cs => match sendT τ a c, sendsT τ as cs with
    | some x, some xs => some (x :: xs)
    | _, _ => none
  | _, _ => none
def sendCapsT (τ : TState) : List AT → List TC → Option (List SentT)
  | [], [] => some []
  | a :: as, c :: cs => match sendCapT τ a c, sendCapsT τ as cs with
    | some x, some xs => some (x :: xs)
    | _, _ => none
  | _, _ => none

/-- One cell that came in: slices take a slot each; 'mn': it may be nil. -/
def impC (t : Nat) (mn : Bool) (k : Nat) : RK → List DP → Option (TC × List (Nat × List Slot × TO) × Nat × List DP)
  | .v ty, ⟨.ty t', x⟩ :: l => if t' = ty ∧ t'.flat = true then some (.v t' x, [], k, l) else none
  | .lst e, ⟨.ty (.list e'), x⟩ :: l => if e' = e then some (.lst e' x [64 * t + k], [], k + 1, l) else none
  | .own e, ⟨.ty (.list e'), x⟩ :: l => if e' = e then some (.own (64 * t + k) none mn, [(64 * t + k, [64 * t + k], .sl e' x (if mn then none else some x.length) false false)], k + 1, l) else none
  | _, _ => none
def impL (t : Nat) (mn : Bool) : Nat → List RK → List DP → Option (List TC × List (Nat × List Slot × TO) × Nat × List DP)
  | k, [], l => some ([], [], k, l)
  | k, r :: ks, l => match impC t mn k r l with
    | some (c, o, k1, l1) => match impL t mn k1 ks l1 with
      | some (cs, os, k2, l2) => some (c :: cs, o ++ os, k2, l2)
      | none => none
    | none => none
def impRs (t : Nat) : Nat → List (RTag × List RK) → List DP → Option (List (Bool × List TC) × List (Nat × List Slot × TO) × Nat × List DP)
  | k, [], l => some ([], [], k, l)
  | k, (ag, ks) :: rs, l => match impL t (ag = .ptr) (if ag = .ptr then k + 1 else k) ks l with
    | some (c, o, k1, l1) => match impRs t k1 rs l1 with
      | some (cs, os, k2, l2) => match ag with
        | .ptr => some ((false, [.vref (64 * t + k) 0]) :: cs, (64 * t + k, [64 * t + k], .var true c false false) :: o ++ os, k2, l2)
        | .agg => some ((true, c) :: cs, o ++ os, k2, l2)
        | .one => match c with
          | [x] => some ((false, [x]) :: cs, o ++ os, k2, l2)
          | _ => none
      | none => none
    | none => none
def tupT : List (Bool × List TC) → Option TV
  | [(true, cs)] => some (.agg cs)
  | [(false, [c])] => some (.c c)
  | [(false, _)] => none
  | vs => some (.tup vs)

/-- What comes back of the arguments. -/
def backT (t : Nat) : Nat → List AT → List SentT → TState → List DP → Option (TState × Nat × List DP)
  | k, [], [], τ, l => some (τ, k, l)
  | k, a :: as, s :: ss, τ, l => match a, s.back with
    | .io _ cout, some (d, off, n) => match impL t true k cout l with
      | some (cs, os, k1, l1) => match τ.getO d with
        | some (.var ag old fz s1) => match putW old off n cs with
          | some new => if ag || new.length == 1 then (let τ1 := τ.putO d (τ.at_ d) (.var ag new fz s1)
            backT t k1 as ss { τ1 with ob := os ++ τ1.ob } l1) else none
          | none => none
        | _ => none
      | none => none
    | .own e true, some (d, _, _) => match l with
      | ⟨.ty (.list e'), x⟩ :: l1 => if e' = e then (match τ.getO d with
        | some (.sl _ _ _ fz s1) => backT t k as ss (τ.putO d (τ.at_ d) (.sl e' x none fz s1)) l1
        | _ => none) else none
      | _ => none
    | .io _ _, none => none
    | .own _ true, none => none
    | _, _ => backT t k as ss τ l
  | _, _, _, _, _ => none

def disjL (a b : List Slot) : Bool := a.all fun x => !b.contains x

/-- Objects that come back. -/
def keepN (ss : List SentT) : List Nat := ss.flatMap fun s => match s.back with
  | some (d, _, _) => [d]
  | none => []

def countL (ks : List RK) : Nat := (ks.filter fun k => match k with
  | .v _ => false
  | _ => true).length
def AT.count : AT → Nat
  | .io _ c => countL c
  | _ => 0
def AT.flatB : AT → Bool
  | .io _ c => c.all RK.flatB
  | .own e true => e.flat
  | _ => true

def afterCall (t : Nat) (sig : Sig) (ss : List SentT) (τ : TState) (k : KT ρ) (kr : List Key) (r : pd sig.rpt) : Tree ρ :=
  let mvN := ss.flatMap (·.mvN)
  let mvS := ss.flatMap (·.mvS)
  let rdS := ss.flatMap (·.rdS)
  let keep := keepN ss
  let n := (sig.res.map fun p => countL p.2 + (if p.1 = .ptr then 1 else 0)).sum + (sig.args.map AT.count).sum
  let new := (List.range n).map (64 * t + ·)
  match impRs t 0 sig.res (pd.to sig.rpt r) with
  | none => .fail 10
  | some (vs, os, k1, l) =>
    match tupT vs with
    | none => .fail 11
    | some tv =>
      let gone := mvN.filter fun d => !keep.contains d
      -- forgotten: what went, what lay where the new things lie, what was read of what comes back
      let τ2 := τ.drop (gone ++ new ++ τ.namesAt (new ++ mvS)) (nameKeys τ mvN ++ mvS ++ new)
      match backT t k1 sig.args ss τ2 l with
      | some (τ3, _, []) =>
        if keep.all (fun d => (τ2.getO d).isSome) && decide (n ≤ 64) then
          let rds := rdS ++ ss.flatMap (·.mrS)
          let fl := rds.isEmpty || ((sig.res.all fun p => p.2.all RK.flatB) && sig.args.all AT.flatB)
          let τ4 := { τ3 with ob := os ++ τ3.ob }
          k tv (if fl then τ4 else τ4.freeze rds) (kr ++ oKeys (ss.flatMap (·.keys)) ++ oKeys new) (oKeys (nameKeys τ mvN ++ mvS ++ new) ++ (if fl then [] else rds.map Key.f))
        else .fail 12
      | _ => .fail 13

def callT (F : FnT) (t : Nat) (ss : List SentT) (τ : TState) (kr : List Key) (k : KT ρ) : Tree ρ :=
  let mvN := ss.flatMap (·.mvN)
  let mvS := ss.flatMap (·.mvS)
  let rdS := ss.flatMap (·.rdS)
  if nodupN mvN && nodupN mvS && disjL (nameKeys τ mvN) mvS && disjL rdS (nameKeys τ mvN ++ mvS) then
    match pd.of F.sig.apt (ss.flatMap (·.pl)) with
    | some x => .call (pd.dflt F.sig.rpt) (F.f x) fun r => afterCall t F.sig ss τ k kr r
    | none => .fail 14
  else .fail 15
/-- The first of the function's descriptions that fits. -/
def callA (τ : TState) (args : List CArg) : List FnT → Option (FnT × List SentT)
  | [] => none
  | F :: Fs => match sendsT τ F.sig.args args with
    | some ss => some (F, ss)
    | none => callA τ args Fs
def callB (τ : TState) (fs cs : List TC) (args : List CArg) : List FnT → Option (FnT × List SentT)
  | [] => none
  | F :: Fs => match sendCapsT τ (F.sig.args.take fs.length) fs, sendsT τ ((F.sig.args.drop fs.length).take args.length) args, sendCapsT τ (F.sig.args.drop (fs.length + args.length)) cs with
    | some a, some b, some c => some (F, a ++ b ++ c)
    | _, _, _ => callB τ fs cs args Fs

/-- A value that is given a name, if it is of a simple type. -/
def named (b : Bool) (v : TV) (k : TV → Tree ρ) : Tree ρ := match b, v with
  | true, .c (.v t x) => .bnd x fun y => k (.c (.v t y))
  | _, v => k v
def namedC (c : TC) (k : TC → Tree ρ) : Tree ρ := match c with
  | .v t x => .bnd x fun y => k (.v t y)
  | c => k c

def storeVar (τ : TState) (d off n : Nat) (cs : List TC) (kr : List Key) (k : KT ρ) : Tree ρ := match τ.getO d with
  | some (.var true old false s1) => match putW old off n cs with
    | some new => k (.c .any) (τ.upd d (.var true new false s1)) (kr ++ τ.ks d) (τ.ks d)
    | none => .fail 20
  | some (.var false _ false s1) => match cs with
    | [c] => if off = 0 ∧ n = 1 ∧ c.width = 1 then k (.c .any) (τ.upd d (.var false [c] false s1)) (kr ++ τ.ks d) (τ.ks d) else .fail 20
    | _ => .fail 20
  | _ => .fail 21

/-- The cells of an operand, arrays whole; with a name for a simple one. -/
def cellsNamed (cs : List TC) (k : List TC → Tree ρ) : Tree ρ := match cs with
  | [c] => namedC c fun c => k [c]
  | cs => k cs

/-- n times. -/
def repZ (f : List AV → Option (List AV)) : Nat → List AV → Option (List AV)
  | 0, l => some l
  | n + 1, l => (f l).bind (repZ f n)
/-- The first cells are the type's zero. -/
def Ty.isZero : Ty → List AV → Option (List AV)
  | .int k, .int k' n :: r => if k' = k ∧ n = 0 then some r else none
  | .bool, .bool b :: r => if b then none else some r
  | .str, .str s :: r => if s.isEmpty then some r else none
  | .list e, .sl w xs :: r => if w = e.width ∧ xs.isEmpty then some r else none
  | .st b, l => b.isZero l
  | .pair a b, l => (a.isZero l).bind b.isZero
  | .arr n e, l => repZ e.isZero n l
  | _, _ => none
def Ty.zeroIs (t : Ty) (a : AV) : Bool := match a with
  | .agg cs => !t.one && (match t.isZero cs with
    | some [] => true
    | _ => false)
  | a => t.one && (match t.isZero [a] with
    | some [] => true
    | _ => false)

def TC.solid : TC → Bool
  | .any => false
  | _ => true
def buildGo (τ : TState) (k : KT ρ) : List (Nat × Nat × Opnd) → List TC → List Key → Tree ρ
  | [], cs, ks => k (.agg cs) τ ks []
  | (off, n, x) :: r, cs, ks => match (τ.val x).cells with
    | some (_, c) => if c.all TC.solid then (match putW cs off n c with
      | some cs' => buildGo τ k r cs' (ks ++ x.keys)
      | none => .fail 36) else .fail 37
    | none => .fail 38
def buildSlGo (τ : TState) (sl : Slot) (t : Ty) (ln : Nat) (k : KT ρ) : List (Nat × Opnd) → List t.D → List Key → List Slot → Tree ρ
  | [], l, ks, rd => .bnd l fun l =>
    if rd.contains sl then .fail 41 else
    k (.c (.own sl none false)) ((τ.mkO sl (.sl t l (some ln) false false)).freeze rd) (ks ++ oKeys rd ++ oKeys [sl]) (oKeys [sl] ++ rd.map Key.f)
  | (i, x) :: r, l, ks, rd => match (τ.val x).cells with
    | some (ag, c) => match valsC τ c with
      | some (c1, rd1) => match t.of c1 with
        | some y => if i < ln ∧ ag = !t.one ∧ c1.all TC.byv = true then buildSlGo τ sl t ln k r (l.set i y) (ks ++ x.keys) (rd ++ rd1) else .fail 42
        | none => .fail 43
      | none => .fail 44
    | none => .fail 45

def capApp (w : Option (Nat × Nat)) (mn : Bool) (cap : Option Nat) (n m : Nat) : Option Nat := match mn, cap with
  | false, some c =>
    let lo := match w with
      | none => 0
      | some (lo, _) => lo
    some (max (n + m) (if lo + n + m ≤ c then c - lo else 0))
  | _, _ => none

def opT (E : TEnv) (dst : Option Nat) (τ : TState) (k : KT ρ) : ROp → Tree ρ
  | .mv x rh =>
    let v := τ.val x
    if rh then match v with
      | .c (.own d w mn) => match τ.getO d with
        | some (.sl e l cap fz _) =>
          if τ.at_ d = [slot dst] then k v τ (x.keys ++ τ.ks d) []
          else if (τ.at_ d).contains (slot dst) then .fail 29
          else k (.c (.own (slot dst) w mn)) ((τ.kill d).mkO (slot dst) (.sl e l cap fz false)) (x.keys ++ τ.ks d ++ oKeys [slot dst]) (τ.ks d ++ oKeys [slot dst])
        | _ => .fail 30
      | .c .any => .fail 31
      | .c (.lst e l ds) => if ds.isEmpty then k v τ x.keys [] else .fail 32
      | v => k v τ x.keys []
    else
      named (match x, dst with
        | .t n, some d => d < n
        | _, _ => false) v fun v => k v τ x.keys []
  | .pick c a b =>
    let ks := c.keys ++ a.keys ++ b.keys
    match τ.val c with
    | .c (.bc true) => k (τ.val a) τ ks []
    | .c (.bc false) => k (τ.val b) τ ks []
    | .c (.v .bool x) => .cnd x (k (τ.val a) τ ks []) (k (τ.val b) τ ks [])
    | _ => .fail 33
  | .alloc zero => match zero with
    | .agg cs => k (.c (.vref (slot dst) 0)) (τ.mkO (slot dst) (.var true (cs.map constC) false false)) (oKeys [slot dst]) (oKeys [slot dst])
    | a => k (.c (.vref (slot dst) 0)) (τ.mkO (slot dst) (.var false [constC a] false false)) (oKeys [slot dst]) (oKeys [slot dst])
  | .box n x => match (τ.val x).cells with
    | some (ag, cs) => if widths cs = n ∧ cs.all TC.solid then
        k (.c (.vref (slot dst) 0)) (τ.mkO (slot dst) (.var ag cs false false)) (x.keys ++ oKeys [slot dst]) (oKeys [slot dst]) else .fail 34
    | none => .fail 35
  | .build zero parts =>
    buildGo τ k parts (zero.map constC) []
  | .buildSl e zero sh ln parts =>
    let t := E.ty (dst.getD 0)
    if e = t.width ∧ sh = t.shape ∧ t.zeroIs zero = true then buildSlGo τ (slot dst) t ln k parts (List.replicate ln t.dflt) [] [] else .fail 46
  | .load n agg x => match τ.val x with
    | .c (.rp t y off ds) => match dropW (t.tcs y) off with
      | some cs => match takeT n agg cs with
        | some v => k v τ (x.keys ++ oKeys ds) []
        | none => .fail 50
      | none => .fail 51
    | .c (.vref d off) => match τ.getO d with
      | some (.var _ cs _ _) => match dropW cs off with
        | some cs => match takeT n agg cs with
          | some v => k v τ (x.keys ++ τ.ks d) []
          | none => .fail 52
        | none => .fail 53
      | _ => .fail 54
    | .c (.eref d i off) => match τ.getO d with
      | some (.sl e l _ _ _) => match dropW (e.tcs (l.getD i e.dflt)) off with
        | some cs => match takeT n agg cs with
          | some v => k v τ (x.keys ++ τ.ks d) []
          | none => .fail 55
        | none => .fail 56
      | _ => .fail 57
    | .c (.aref d off m e j off2) => match τ.getO d with
      | some (.var _ cs _ _) => match dropW cs off with
        | some (.v (.arr m' e') l :: _) => if m' = m ∧ e' = e then (match dropW (e'.tcs (arrRd e'.dflt l j)) off2 with
          | some cs => match takeT n agg cs with
            | some v => k v τ (x.keys ++ τ.ks d) []
            | none => .fail 58
          | none => .fail 59) else .fail 60
        | _ => .fail 61
      | _ => .fail 62
    | _ => .fail 63
  | .store n sh x v => match τ.val x, (τ.val v).cells with
    | .c (.vref d off), some (_, cs) =>
      if cs.all TC.solid then
        cellsNamed cs fun cs => storeVar τ d off n cs (x.keys ++ v.keys) k
      else .fail 64
    | .c (.aref d off m e j off2), some (_, cs) => match τ.getO d with
      | some (.var true old false s1) => match dropW old off with
        | some (.v (.arr m' e') l :: _) => if m' = m ∧ e' = e ∧ e'.flat = true ∧ cs.all TC.solid = true then (match putW (e'.tcs (arrRd e'.dflt l j)) off2 n cs with
          | some new => match e'.of new with
            | some y => .bnd (arrWr l j y) fun l' => match putW old off (m' * e'.width) [.v (.arr m' e') l'] with
              | some cs' => k (.c .any) (τ.upd d (.var true cs' false s1)) (x.keys ++ v.keys ++ τ.ks d) (τ.ks d)
              | none => .fail 65
            | none => .fail 66
          | none => .fail 67) else .fail 68
        | _ => .fail 69
      | _ => .fail 70
    | .c (.eref d i off), some (_, cs) => match τ.getO d with
      | some (.sl e l cap false s1) => match valsC τ cs with
        | some (c1, rd) => match putW (e.tcs (l.getD i e.dflt)) off n c1 with
          | some new => match e.of new with
            | some y => if meets rd (τ.at_ d) = true ∨ sh ≠ (e.shape.drop off).take n ∨ cs.all TC.solid = false ∨ c1.all TC.byv = false ∨ n = 0 then .fail 71 else .bnd (l.set i y) fun l' =>
              k (.c .any) ((τ.upd d (.sl e l' cap false s1)).freeze rd) (x.keys ++ v.keys ++ τ.ks d ++ oKeys rd) (τ.ks d ++ rd.map Key.f)
            | none => .fail 72
          | none => .fail 73
        | none => .fail 74
      | _ => .fail 75
    | _, _ => .fail 76
  | .nilck x => match τ.val x with
    | .c (.rp t y off ds) => k (τ.val x) τ (x.keys ++ oKeys ds) []
    | .c (.vref d off) => k (τ.val x) τ (x.keys ++ τ.ks d) []
    | .c (.eref d i off) => k (τ.val x) τ (x.keys ++ τ.ks d) []
    | .c (.aref d _ _ _ _ _) => k (τ.val x) τ (x.keys ++ τ.ks d) []
    | .fn _ _ _ => k (τ.val x) τ x.keys []
    | _ => .fail 77
  | .bin c op x y =>
    let ks := x.keys ++ y.keys
    match c, asI (τ.val x), asI (τ.val y) with
    | 0, some (k1, a), some (k2, b) => binI op k1 k2 a b y.lit fun v => k v τ ks []
    | 0, _, _ => match asS (τ.val x), asS (τ.val y) with
      | some a, some b => binS op a b fun v => k v τ ks []
      | _, _ => .fail 80
    | 1, _, _ => match asB (τ.val x), asB (τ.val y), op with
      | some a, some b, .eql => k (tBool (bIff a b)) τ ks []
      | some a, some b, .neq => k (tBool (!(bIff a b))) τ ks []
      | _, _, _ => .fail 81
    | _, _, _ => .fail 82
  | .eqAgg neg kk x y => match τ.val x, τ.val y with
    | .agg a, .agg b => match eqT kk a b with
      | some r => k (tBool (if neg then !r else r)) τ (x.keys ++ y.keys) []
      | none => .fail 83
    | _, _ => .fail 84
  | .un op x => match op, asB (τ.val x), asI (τ.val x) with
    | .not, some b, _ => k (tBool (!b)) τ x.keys []
    | .neg, _, some (kk, n) => k (tInt kk (iSub kk 0 n)) τ x.keys []
    | .xor, _, some (kk, n) => k (tInt kk (iXor kk (iAll kk) n)) τ x.keys []
    | _, _, _ => .fail 85
  | .conv kk x => match asI (τ.val x) with
    | some (_, n) => k (tInt kk (iConv kk n)) τ x.keys []
    | none => .fail 86
  | .toStr st x => if st then (match asS (τ.val x) with
      | some s => k (tStr s) τ x.keys []
      | none => .fail 87) else match asS (τ.val x), elemsT τ (.int .u8) (τ.val x) with
      | none, some (l, ds) => k (tStr (ofBytes l)) τ (x.keys ++ oKeys ds) []
      | _, _ => .fail 88
  | .toBytes x => match asS (τ.val x) with
    | some s => .bnd (toBytes s) fun l => k (.c (.own (slot dst) none false)) (τ.mkO (slot dst) (.sl (.int .u8) l (some l.length) false false)) (x.keys ++ oKeys [slot dst]) (oKeys [slot dst])
    | none => .fail 89
  | .mkSl e bytes zero ln cap =>
    let t := E.ty (dst.getD 0)
    match asI (τ.val ln), asI (τ.val cap) with
    | some (_, n), some (_, c) =>
      if e = t.width ∧ t.zeroIs zero = true then
        .req (0 ≤ n ∧ n ≤ c ∧ bytes * c ≤ 140737488355328 ∧ c ≤ 9223372036854775807) inferInstance
          (.bnd (mkL n t.dflt) fun l => k (.c (.own (slot dst) none false)) (τ.mkO (slot dst) (.sl t l (some c.toNat) false false)) (ln.keys ++ cap.keys ++ oKeys [slot dst]) (oKeys [slot dst]))
      else .fail 90
    | _, _ => .fail 91
  | .slice e x lo hi mx =>
    match boundT τ 0 lo, boundT τ 0 hi with
    | some l, some h =>
      let ks := x.keys ++ bKeys lo ++ bKeys hi ++ bKeys mx
      match mx, τ.val x with
      | none, .c (.v .str s) => if e = 0 then withBounds s.length l h (k (tStr (cutT s l h)) τ ks []) else .fail 92
      | none, .c (.lst t xs ds) => if e = t.width ∧ e ≠ 0 then withBounds xs.length l h (k (.c (.lst t (cutT xs l h) ds)) τ (ks ++ oKeys ds) []) else .fail 93
      | none, .c .nil => if e ≠ 0 then withBounds 0 l h (k (.c .nil) τ ks []) else .fail 94
      | none, .c (.own d w mn) => match τ.getO d with
        | some (.sl t xs xcap _ _) => if e = t.width ∧ e ≠ 0 then
            let n : Nat := match w with
              | none => xs.length
              | some (_, n) => n
            let l0 : Nat := match w with
              | none => 0
              | some (l0, _) => l0
            if E.ty (dst.getD 0) = .str then
              -- what lies behind the list
              match w, mn, xcap, l, h with
              | none, false, some c, some (_, l), some (_, h) => .req ((n : Int) ≤ l ∧ l < h ∧ h ≤ c) inferInstance (k (.c (.spare d)) τ (ks ++ τ.ks d) [])
              | _, _, _, _, _ => .fail 99
            else match l, h with
            | none, none => k (τ.val x) τ (ks ++ τ.ks d) []
            | l, h => withBounds n l h (k (.c (.own d (some (l0 + loN l, hiN n h - loN l)) mn)) τ (ks ++ τ.ks d) [])
          else .fail 95
        | _ => .fail 96
      -- only looked at for its bounds
      | some m, .c (.own d none mn) => match τ.getO d, boundT τ 0 (some m), h with
        | some (.sl t xs _ _ _), some (some (_, m)), some (_, h) => if e = t.width ∧ e ≠ 0 then
            .req (0 ≤ (loN l : Int) ∧ (loN l : Int) ≤ h ∧ h ≤ m ∧ m ≤ xs.length ∧ (match l with
              | none => True
              | some (_, n) => 0 ≤ n)) (by cases l <;> infer_instance) (k (.c .any) τ (ks ++ τ.ks d) []) else .fail 95
        | _, _, _ => .fail 96
      | _, _ => .fail 97
    | _, _ => .fail 98
  | .sliceArr n e agg x lo hi => match boundT τ 0 lo, boundT τ 0 hi, τ.val x with
    | some l, some h, .c (.vref d 0) => match τ.getO d with
      | some (.var true cs false _) =>
        let t := E.ty (dst.getD 0)
        match valsC τ cs with
        | some (cs1, rd) => match (Ty.arr n t).of cs1 with
          | some xs => if e = t.width ∧ agg = !t.one ∧ t.flat = true ∧ cs1.all TC.byv = true ∧ !(τ.at_ d).contains (slot dst) ∧ !meets rd (τ.at_ d) ∧ !rd.contains (slot dst) then
              let τ1 := ((τ.kill d).mkO (slot dst) (.sl t xs.1 (some n) false false)).freeze rd
              let ks := x.keys ++ bKeys lo ++ bKeys hi ++ τ.ks d ++ oKeys (slot dst :: rd)
              withBounds n l h (k (.c (.own (slot dst) (viewT n l h) false)) τ1 ks (τ.ks d ++ oKeys [slot dst] ++ rd.map Key.f))
            else .fail 100
          | none => .fail 101
        | none => .fail 102
      | _ => .fail 103
    | _, _, _ => .fail 104
  | .fld off x => match τ.val x with
    | .c (.rp t y o ds) => k (.c (.rp t y (o + off) ds)) τ (x.keys ++ oKeys ds) []
    | .c (.vref d o) => k (.c (.vref d (o + off))) τ (x.keys ++ τ.ks d) []
    | .c (.eref d i o) => k (.c (.eref d i (o + off))) τ (x.keys ++ τ.ks d) []
    | .c (.aref d o n e j o2) => k (.c (.aref d o n e j (o2 + off))) τ (x.keys ++ τ.ks d) []
    | _ => .fail 105
  | .fldV off n agg x => match τ.val x with
    | .agg cs => match dropW cs off with
      | some cs => match takeT n agg cs with
        | some v => k v τ x.keys []
        | none => .fail 106
      | none => .fail 107
    | _ => .fail 108
  | .ixA e x i => match asI (τ.val i), τ.val x with
    | some (_, n), .c (.lst t l ds) => if e = t.width then .at t.dflt l n fun y => k (.c (.rp t y 0 ds)) τ (x.keys ++ i.keys ++ oKeys ds) [] else .fail 110
    | some (_, n), .c (.own d w mn) => match τ.getO d with
      | some (.sl t l _ _ _) => if e = t.width then (match w with
        | none => .req (0 ≤ n ∧ n < l.length) inferInstance (k (.c (.eref d n.toNat 0)) τ (x.keys ++ i.keys ++ τ.ks d) [])
        | some (lo, len) => .req (0 ≤ n ∧ n < len) inferInstance (k (.c (.eref d (lo + n.toNat) 0)) τ (x.keys ++ i.keys ++ τ.ks d) [])) else .fail 111
      | _ => .fail 112
    | _, _ => .fail 113
  | .ixArr n e x i => match asI (τ.val i), τ.val x with
    | some (_, j), .c (.vref d off) => match τ.getO d with
      | some (.var true cs fz s1) =>
        let t := E.ty (dst.getD 0)
        match arrW cs off n t with
        | some cs' => if e = t.width then .req (0 ≤ j ∧ j < n) inferInstance (k (.c (.aref d off n t j 0)) (τ.putO d (τ.at_ d) (.var true cs' fz s1)) (x.keys ++ i.keys ++ τ.ks d) []) else .fail 114
        | none => .fail 115
      | _ => .fail 116
    | some (_, j), .c (.rp t y off []) => match dropW (t.tcs y) off with
      | some (.v (.arr m e') l :: _) => if m = n ∧ e = e'.width then .req (0 ≤ j ∧ j < n) inferInstance (k (.c (.rp e' (arrRd e'.dflt l j) 0 [])) τ (x.keys ++ i.keys) []) else .fail 117
      | _ => .fail 118
    | _, _ => .fail 119
  | .ixV n e agg x i => match asI (τ.val i), τ.val x with
    | some (_, j), .agg cs =>
      let t := E.ty (dst.getD 0)
      match (Ty.arr n t).of cs with
      | some l => if e = t.width ∧ agg = !t.one ∧ t.flat = true then .req (0 ≤ j ∧ j < n) inferInstance (match takeT e agg (t.tcs (arrRd t.dflt l j)) with
        | some v => k v τ (x.keys ++ i.keys) []
        | none => .fail 120) else .fail 121
      | none => .fail 122
    | _, _ => .fail 123
  | .ixS x i => match asI (τ.val i), asS (τ.val x) with
    | some (_, j), some s => .at (0 : UInt8) s j fun c => k (tInt .u8 (c.toNat : Int)) τ (x.keys ++ i.keys) []
    | _, _ => .fail 124
  | .ext x i => match τ.val x with
    | .tup vs => match vs[i]? with
      | some (true, cs) => k (.agg cs) τ x.keys []
      | some (false, [c]) => k (.c c) τ x.keys []
      | _ => .fail 125
    | _ => .fail 126
  | .len st x => if st then (match asS (τ.val x) with
      | some s => k (tInt .i64 (s.length : Int)) τ x.keys []
      | none => .fail 127) else match τ.val x with
      | .c .nil => k (tInt .i64 0) τ x.keys []
      | .c (.lst _ l ds) => k (tInt .i64 (l.length : Int)) τ (x.keys ++ oKeys ds) []
      | .c (.own d (some (_, n)) _) => k (tInt .i64 (n : Int)) τ (x.keys ++ τ.ks d) []
      | .c (.own d none _) => match τ.getO d with
        | some (.sl _ l _ _ _) => k (tInt .i64 (l.length : Int)) τ (x.keys ++ τ.ks d) []
        | _ => .fail 128
      | _ => .fail 129
  | .app e bytes x y =>
    let t := E.ty (dst.getD 0)
    match elemsT τ t (τ.val y) with
    | none => .fail 130
    | some (ys, ds) =>
      let ks := x.keys ++ y.keys ++ oKeys (slot dst :: ds)
      if e ≠ t.width then .fail 131 else
      match τ.val x with
      | .c .nil => .req (ys.length * bytes ≤ 140737488355328) inferInstance (.bnd ys fun l =>
          k (.c (.own (slot dst) none false)) (τ.mkO (slot dst) (.sl t l (some ys.length) false false)) ks (oKeys [slot dst]))
      | .c (.own d w mn) => match τ.getO d with
        | some (.sl t' l cap fz _) =>
          if h : t' = t then
            let l0 : List t.D := h ▸ l
            let pre := cutW w l0
            if fz = false ∨ (w.isNone ∧ mn = false) then
              .req ((pre.length + ys.length) * bytes ≤ 140737488355328) inferInstance (.bnd (pre ++ ys) fun l' =>
                let τ1 := (τ.kill d).mkO (slot dst) (.sl t l' (capApp w mn cap pre.length ys.length) fz false)
                k (.c (.own (slot dst) none false)) (if mn = false ∧ d ≠ slot dst ∧ τ.at_ d = [d] then τ1.putO d [d] .gone else τ1) (ks ++ τ.ks d) (τ.ks d ++ oKeys [slot dst]))
            else .fail 132
          else .fail 133
        | _ => .fail 134
      | _ => .fail 135
  | .copy e x y => match τ.val x with
    | .c (.own d w false) => match τ.getO d with
      | some (.sl t l cap false s1) => match elemsT τ t (τ.val y) with
        | some (ys, ds) =>
          let lo := match w with
            | none => 0
            | some (lo, _) => lo
          let n := match w with
            | none => l.length
            | some (_, n) => n
          if e = t.width then .req (ys.length ≤ n) inferInstance (.bnd (l.take lo ++ ys ++ l.drop (lo + ys.length)) fun l' =>
            k (tInt .i64 (ys.length : Int)) (τ.upd d (.sl t l' cap false s1)) (x.keys ++ y.keys ++ τ.ks d ++ oKeys ds) (τ.ks d)) else .fail 136
        | none => .fail 137
      | _ => .fail 138
    | _ => .fail 139
  | .clear e x => match τ.val x with
    | .c (.spare d) => match τ.getO d with
      | some (.sl t _ _ false _) => if e = t.width then k (.tup []) τ (x.keys ++ τ.ks d) [] else .fail 140
      | _ => .fail 140
    | _ => .fail 140
  | .mm mx x y => match asI (τ.val x), asI (τ.val y) with
    | some (k1, a), some (k2, b) => if k1 = k2 then k (tInt k1 (if mx then iMax a b else iMin a b)) τ (x.keys ++ y.keys) [] else .fail 141
    | _, _ => .fail 142
  | .call g args => match callA τ args (E.fn g) with
    | some (F, ss) => callT F (dst.getD 0) ss τ (args.flatMap fun a => a.x.keys) k
    | none => .fail (1000000 + g) [τ]
  | .callv f args => match τ.val f with
    | .fn g fs cs => match callB τ fs cs args (E.fn g) with
      | some (F, ss) => callT F (dst.getD 0) ss τ (f.keys ++ args.flatMap fun a => a.x.keys) k
      | none => .fail (1000000 + g) [τ]
    | _ => .fail 143
  | .mkfn g first caps =>
    let f (x : Opnd) : Option TC := match τ.val x with
      | .c c => some c
      | _ => none
    match first.mapM f, caps.mapM f with
    | some a, some b => k (.fn g a b) τ ((first ++ caps).flatMap Opnd.keys) []
    | _, _ => .fail 144

def putDst (dst : Option Nat) (v : TV) (τ : TState) : TState := match dst with
  | some d => τ.setT d v
  | none => τ
def dKeys (dst : Option Nat) : List Key := match dst with
  | some d => [.t d]
  | none => []

def insT (E : TEnv) (i : Ins) (τ : TState) (k : TState → Tree ρ) : Tree ρ :=
  let main (τ : TState) (g : List Key) : Tree ρ := opT E i.dst τ (fun v τ' kr kw =>
    let τ2 := putDst i.dst v τ'
    k { τ2 with fp := τ.fp ++ [(g ++ kr, kw ++ dKeys i.dst)] }) i.op
  let skip (τ : TState) (g : List Key) : Tree ρ :=
    let τ2 := putDst i.dst (.tup []) τ
    k { τ2 with fp := τ.fp ++ [(g, dKeys i.dst)] }
  match i.guard with
  | none => main τ []
  | some (g, want) => match τ.getT g with
    | .c (.bc b) => if b = want then main τ [.t g] else skip τ [.t g]
    | .c (.v .bool b) =>
      .cnd b (let τ1 := τ.setT g (.c (.bc true)); if want then main τ1 [.t g] else skip τ1 [.t g]) (let τ1 := τ.setT g (.c (.bc false)); if want then skip τ1 [.t g] else main τ1 [.t g])
    | .tup [] => skip τ [.t g]
    | _ => .fail 150

def insL (E : TEnv) : List Ins → TState → (TState → Tree ρ) → Tree ρ
  | [], τ, k => k τ
  | i :: is, τ, k => insT E i τ fun τ' => insL E is τ' k
end

def RCode.size : RCode → Nat
  | .seq a b => a.size + b.size + 1
  | .cond _ a b => a.size + b.size + 1
  | .block _ a => a.size + 1
  | .loop _ a => a.size + 1
  | _ => 1

/-- Pieces of code have numbers: n is that of this one. -/
def exec (E : TEnv) : RCode → {ρ : Type} → Nat → TState → (Ex → TState → Tree ρ) → Tree ρ
  | .skip, _, _, τ, k => k .normal τ
  | .ret, _, _, τ, k => k .ret τ
  | .exit id, _, _, τ, k => k (.exit id) τ
  | .seq a b, ρ, n, τ, k => match E.ann n with
    | none => exec E a (n + 1) τ fun e τ' => match e with
      | .normal => exec E b (n + 1 + a.size) τ' k
      | e => k e τ'
    | some A => .join (ρ := ρ) (α := pd A.pts) n (exec E a (n + 1) τ fun e τ' => match e with
      | .normal => match A.pack τ' with
        | some x => .ret (.inl x)
        | none => .fail (200000 + n) [τ']
      | e => (k e τ').map Sum.inr) fun x => match A.unpack x with
        | some τ' => exec E b (n + 1 + a.size) τ' k
        | none => .fail 160
  | .cond c a b, _, n, τ, k => match τ.val c with
    | .c (.bc true) => exec E a (n + 1) τ k
    | .c (.bc false) => exec E b (n + 1 + a.size) τ k
    | .c (.v .bool x) => .cnd x (exec E a (n + 1) τ k) (exec E b (n + 1 + a.size) τ k)
    | _ => .fail 161
  | .block id a, _, n, τ, k => exec E a (n + 1) τ fun e τ' => match e with
    | .exit id' => if id' = id then k .normal τ' else k (.exit id') τ'
    | e => k e τ'
  | .loop lv a, ρ, n, τ, k => match lv, E.ann n with
    | none, some H =>
      let X := (E.ann (n + 1000000)).getD default
      match H.pack τ with
      | none => .fail (300000 + n) [τ]
      | some x0 => .loop (ρ := ρ) (σ := pd H.pts) (α := pd X.pts) n (pd.dflt H.pts) (pd.dflt X.pts) x0 (fun x => match H.unpack x with
        | none => .fail 162
        | some τ1 => exec E a (n + 1) τ1 fun e τ' => match e with
          | .normal => match H.pack τ' with
            | some y => .ret (.inl y)
            | none => .fail (300000 + n) [τ']
          | .exit id => if id = X.exit then (match X.pack τ' with
            | some y => .ret (.inr (.inl y))
            | none => .fail (400000 + n) [τ']) else .fail (700000 + id) [τ']
          | .ret => (k .ret τ').map (Sum.inr ∘ Sum.inr)) fun y => match X.unpack y with
            | some τ' => k (.exit X.exit) τ'
            | none => .fail 164
    | _, _ => .fail (500000 + n) [τ]
  | .region ins bef, _, n, τ, k => insL E ins { τ with fp := [] } fun τ' => match bef with
    | none => k .normal τ'
    | some bs => if drawOk bs τ'.fp then k .normal { τ' with fp := [] } else .fail (600000 + n)

/-! ### Functions -/
def rpL : List Ty → List DP → Option (List TC × List DP)
  | [], l => some ([], l)
  | t :: ts, ⟨.ty t', x⟩ :: r => if t' = t then (rpL ts r).map fun p => (.rp t' x 0 [] :: p.1, p.2) else none
  | _, _ => none
def entT (t : Nat) (a : AT) (l : List DP) : Option (TV × List (Nat × List Slot × TO) × List DP) := match a with
  | .val ty => match l with
    | ⟨.ty t', x⟩ :: r => if t' = ty ∧ t'.shape.length ≤ 64 then some (if t'.one then (match t'.tcs x with
      | [c] => .c c
      | _ => .c .any) else .agg (t'.tcs x), [], r) else none
    | _ => none
  | .oagg ks => match impL t false 0 ks l with
    | some (cs, os, k, r) => if k ≤ 64 then some (.agg cs, os, r) else none
    | none => none
  | .io cin _ => match impL t true 1 cin l with
    | some (cs, os, k, r) => if k ≤ 64 then some (.c (.vref (64 * t) 0), (64 * t, [64 * t], .var true cs false true) :: os, r) else none
    | none => none
  | .own e _ => match l with
    | ⟨.ty (.list e'), x⟩ :: r => if e' = e then some (.c (.own (64 * t) none false), [(64 * t, [64 * t], .sl e' x (some x.length) false true)], r) else none
    | _ => none
  | .ro ty => match l with
    | ⟨.ty t', x⟩ :: r => if t' = ty then some (.c (.rp t' x 0 []), [], r) else none
    | _ => none
  | .fn g fs cs => 
    match rpL fs l with
    | some (a, r) => match rpL cs r with
      | some (b, q) => some (.fn g a b, [], q)
      | none => none
    | none => none
def entsT : Nat → List AT → List DP → Option (List TV × List (Nat × List Slot × TO))
  | _, [], [] => some ([], [])
  | t, a :: as, l => match entT t a l with
    | some (v, o, r) => match entsT (t + 1) as r with
      | some (vs, os) => some (v :: vs, o ++ os)
      | none => none
    | none => none
  | _, _, _ => none

section
variable {ρ : Type}
def resT (τ : TState) (ag : RTag) (ks : List RK) : RRes → Option (List DP × List Nat × List Slot × List Slot)
  | .t n => match ag, τ.getT n with
    | .ptr, .c (.vref d 0) => match τ.getO d with
      | some (.var true cs false _) => (expF τ ks cs).map fun p => (p.1, d :: p.2.1, p.2.2)
      | _ => none
    | ag, v => match v.cells with
      | some (ag', cs) => if ag ≠ .ptr ∧ ag' = decide (ag = .agg) then expF τ ks cs else none
      | none => none
  | .cell a n agg => match τ.getT a with
    | .c (.vref d off) => match τ.getO d with
      | some (.var _ cs _ _) => match dropW cs off with
        | some cs => match takeT n agg cs with
          | some v => match v.cells with
            | some (ag', cs) => if ag ≠ .ptr ∧ ag' = decide (ag = .agg) then expF τ ks cs else none
            | none => none
          | none => none
        | none => none
      | _ => none
    | _ => none
def ressT (τ : TState) : List (RTag × List RK) → List (RRes × Shape) → Option (List DP × List Nat × List Slot × List Slot)
  | [], [] => some ([], [], [], [])
  | (ag, ks) :: rs, (r, sh) :: fs => match resT τ ag ks r, ressT τ rs fs with
    | some (a, b, c, d), some (x, y, z, w) => if ag = .ptr ∨ (sh = ks.flatMap (fun k => k.ty.shape) ∧ ks.all RK.okW = true) then some (a ++ x, b ++ y, c ++ z, d ++ w) else none
    | _, _ => none
  | _, _ => none
/-- Lists that surely go with the result. -/
def sureC : TC → List Nat
  | .own d _ false => [d]
  | _ => []
def sureR (τ : TState) : List (RRes × Shape) → List Nat
  | [] => []
  | (.t n, _) :: r => (match τ.getT n with
    | .c c => sureC c
    | .agg cs => cs.flatMap sureC
    | _ => []) ++ sureR τ r
  | _ :: r => sureR τ r
/-- What becomes of the arguments; the lengths that must be as before. -/
def leaveT (τ : TState) (taken sure : List Nat) : Nat → List AT → List Nat → Option (List DP × List Nat × List Slot × List (Nat × Nat))
  | _, [], _ => some ([], [], [], [])
  | t, a :: as, ns => match a with
    | .io _ cout => match τ.getO (64 * t) with
      | some (.var true cs false true) => if τ.at_ (64 * t) ≠ [64 * t] then none else match expF τ cout cs, leaveT τ taken sure (t + 1) as ns with
        | some (a, b, c, _), some (x, y, z, q) => some (a ++ x, 64 * t :: b ++ y, c ++ z, q)
        | _, _ => none
      | _ => none
    | .own e true => match τ.getO (64 * t), ns with
      | some (.sl e' l _ false true), n :: ns => if e' = e ∧ !taken.contains (64 * t) ∧ τ.at_ (64 * t) = [64 * t] then (match leaveT τ taken sure (t + 1) as ns with
        | some (x, y, z, q) => some (dpl e' l :: x, 64 * t :: y, z, (n, l.length) :: q)
        | none => none) else none
      | _, _ => none
    | .own _ false => match τ.getO (64 * t), ns with
      | some .gone, _ :: ns => if τ.at_ (64 * t) = [64 * t] then leaveT τ taken sure (t + 1) as ns else none
      | some (.sl _ _ _ false true), _ :: ns => if sure.contains (64 * t) ∧ τ.at_ (64 * t) = [64 * t] then leaveT τ taken sure (t + 1) as ns else none
      | _, _ => none
    | _ => leaveT τ taken sure (t + 1) as ns
def ownLens : List AT → List DP → List Nat
  | [], _ => []
  | .own _ _ :: as, ⟨.ty (.list _), x⟩ :: l => x.length :: ownLens as l
  | a :: as, l => ownLens as (l.drop a.pts.length)

def finishT (F : RFunc) (sig : Sig) (ns : List Nat) (τ : TState) : Tree (pd sig.rpt) := match ressT τ sig.res F.res with
  | none => .fail 170 [τ]
  | some (a, b, c, _) => match leaveT τ b (sureR τ F.res) 0 sig.args ns with
    | none => .fail 171 [τ]
    | some (x, y, z, q) =>
      if nodupN (b ++ y) && nodupN (c ++ z) && disjL (nameKeys τ (b ++ y)) (c ++ z) then
        match pd.of sig.rpt (a ++ x) with
        | some r => q.foldr (fun p t => .req (p.1 = p.2) inferInstance t) (.ret r)
        | none => .fail 172
      else .fail 173

def runT (E : TEnv) (F : RFunc) (sig : Sig) (x : pd sig.apt) : Tree (pd sig.rpt) :=
  if sig.args.length = F.np ∧ F.np ≤ F.nt then
    match entsT 0 sig.args (pd.to sig.apt x) with
    | some (vs, os) => exec E F.body 0 ⟨vs ++ List.replicate (F.nt - F.np) (.c .any), os, []⟩ fun e τ => match e with
      | .exit _ => .fail 180
      | _ => finishT F sig (ownLens sig.args (pd.to sig.apt x)) τ
    | none => .fail 181
  else .fail 182
end
end Go.Vm
/- What a typed state says of a state of the value machine. -/
namespace Go.Vm

/-! ### Lookups -/
theorem lookT_filter {α : Type} (d : Nat) (p : Nat → Bool) : ∀ (l : List (Nat × α)), lookT d (l.filter fun x => p x.1) = if p d then lookT d l else none
  | [] => by simp [lookT]
  | (d', s) :: r => by
    have ih := lookT_filter d p r
    by_cases hp : p d' = true
    · simp only [List.filter_cons, hp, if_true, lookT]
      by_cases h : (d' == d) = true
      · have : d' = d := by simpa using h
        subst this
        simp [hp]
      · simp only [h, Bool.false_eq_true, if_false, ih]
    · simp only [List.filter_cons, hp, Bool.false_eq_true, if_false, ih, lookT]
      by_cases h : (d' == d) = true
      · have : d' = d := by simpa using h
        subst this
        simp [hp]
      · simp [h]
theorem lookT_map {α β : Type} (f : α → β) (d : Nat) : ∀ (l : List (Nat × α)), lookT d (l.map fun p => (p.1, f p.2)) = (lookT d l).map f
  | [] => rfl
  | (d', s) :: r => by
    simp only [List.map_cons, lookT]
    split
    · rfl
    · exact lookT_map f d r
theorem lookT_map' {α β : Type} (f : Nat → α → β) (d : Nat) : ∀ (l : List (Nat × α)), lookT d (l.map fun p => (p.1, f p.1 p.2)) = (lookT d l).map (f d)
  | [] => rfl
  | (d', s) :: r => by
    simp only [List.map_cons, lookT]
    by_cases h : (d' == d) = true
    · have : d' = d := by simpa using h
      subst this
      simp
    · simp only [h, Bool.false_eq_true, if_false]
      exact lookT_map' f d r
theorem lookT_mem {α : Type} {d : Nat} {x : α} : ∀ {l : List (Nat × α)}, lookT d l = some x → (d, x) ∈ l
  | [], h => by cases h
  | (d', s) :: r, h => by
    simp only [lookT] at h
    split at h
    · rename_i e
      have : d' = d := by simpa using e
      cases h
      subst this
      exact List.mem_cons_self
    · exact List.mem_cons_of_mem _ (lookT_mem h)
theorem lookT_append {α : Type} (d : Nat) : ∀ (a b : List (Nat × α)), lookT d (a ++ b) = (lookT d a).or (lookT d b)
  | [], b => by simp [lookT]
  | (d', s) :: r, b => by
    simp only [List.cons_append, lookT]
    split
    · rfl
    · exact lookT_append d r b

/-! ### Values of types -/
theorem Ty.len_cells : ∀ (t : Ty) (x : t.D), (t.cells x).length = t.width
  | .int _, _ => rfl
  | .bool, _ => rfl
  | .str, _ => rfl
  | .list _, _ => rfl
  | .st b, x => b.len_cells x
  | .pair a b, x => by simp only [Ty.cells, List.length_append, a.len_cells, b.len_cells, Ty.width]
  | .arr n e, l => by
    simp only [Ty.cells, Ty.width]
    have : ∀ (l : List e.D), ((l.map fun x => e.cells x).flatten).length = l.length * e.width := by
      intro l
      induction l with
      | nil => simp
      | cons x r ih => simp only [List.map_cons, List.flatten_cons, List.length_append, e.len_cells, ih, List.length_cons]; rw [Nat.succ_mul, Nat.add_comm]
    rw [this, l.2]

/-- One cell that is not a struct. -/
def AV.leaf : AV → Bool
  | .int _ _ | .bool _ | .str _ | .sl _ _ => true
  | _ => false
theorem Ty.cells_leaf : ∀ (t : Ty) (x : t.D), ∀ a ∈ t.cells x, a.leaf = true
  | .int _, _ => by simp [Ty.cells, AV.leaf]
  | .bool, _ => by simp [Ty.cells, AV.leaf]
  | .str, _ => by simp [Ty.cells, AV.leaf]
  | .list _, _ => by simp [Ty.cells, AV.leaf]
  | .st b, x => b.cells_leaf x
  | .pair a b, x => by
    intro y hy
    simp only [Ty.cells, List.mem_append] at hy
    rcases hy with hy | hy
    · exact a.cells_leaf _ y hy
    · exact b.cells_leaf _ y hy
  | .arr n e, l => by
    intro y hy
    simp only [Ty.cells, List.mem_flatten, List.mem_map] at hy
    obtain ⟨_, ⟨z, _, rfl⟩, hy⟩ := hy
    exact e.cells_leaf _ y hy
theorem AV.leaf_one {a : AV} (h : a.leaf = true) : a.one = true := by cases a <;> first | rfl | cases h
theorem AV.leaf_plain {a : AV} (h : a.leaf = true) : a.plain = true := by cases a <;> first | rfl | cases h
theorem AV.plain_cells {a : AV} (h : a.plain = true) : a.cells = [a] := by cases a <;> first | rfl | cases h
theorem AV.one_plain {a : AV} (h : a.one = true) : a.plain = true := by cases a <;> first | rfl | cases h
theorem AV.one_solid {a : AV} (h : a.one = true) : a.solid = true := by cases a <;> first | rfl | cases h

theorem Ty.one_cells {t : Ty} (h : t.one = true) (x : t.D) : ∃ a, t.cells x = [a] ∧ a.leaf = true := by
  cases t with
  | int k => exact ⟨_, rfl, rfl⟩
  | bool => exact ⟨_, rfl, rfl⟩
  | str => exact ⟨_, rfl, rfl⟩
  | list e => exact ⟨_, rfl, rfl⟩
  | _ => cases h

theorem enc1_cells {one : Bool} {cs : List AV} (h : one = true → ∃ a, cs = [a] ∧ a.plain = true) : (enc1 one cs).cells = cs := by
  unfold enc1
  cases one with
  | false => rfl
  | true =>
    obtain ⟨a, rfl, ha⟩ := h rfl
    exact AV.plain_cells ha
theorem Ty.enc_cells (t : Ty) (x : t.D) : (t.enc x).cells = t.cells x := enc1_cells fun h => by
  obtain ⟨a, h1, h2⟩ := Ty.one_cells h x
  exact ⟨a, h1, AV.leaf_plain h2⟩
theorem Ty.cells_list (e : Ty) (l : List e.D) : (Ty.list e).cells l = [.sl e.width (l.map e.enc)] := rfl

/-! ### The relation -/
/-- The object at the slot is this list. -/
def SlR (σ : State) (s : Slot) (e : Ty) (l : List e.D) (cap : Option Nat) (fz : Bool) : Prop :=
  (∃ st c, σ.getO s = ⟨st, some ⟨e.width, l.map e.enc, false, c⟩⟩ ∧ l.length ≤ c ∧ ∀ c', cap = some c' → c = c') ∧ (fz = false → σ.getF s = false)

/-- Reads as this list; lies at one of the slots, if it lies in an object. -/
def LstR (σ : State) (e : Ty) (l : List e.D) (ds : List Slot) (a : AV) : Prop :=
  a = .sl e.width (l.map e.enc) ∨ (l = [] ∧ a = .nil) ∨
  ∃ s ∈ ds, ∃ st c lo len xs, σ.getO s = ⟨st, some ⟨e.width, xs, false, c⟩⟩ ∧ xs.length ≤ c ∧ lo + len ≤ xs.length ∧ (xs.drop lo).take len = l.map e.enc ∧ a = .sref s st lo len

def OwnR (τ : TState) (σ : State) (m : Nat → Slot) (d : Nat) (w : Option (Nat × Nat)) (mn : Bool) (a : AV) : Prop :=
  ∃ e l cap fz s1, τ.getO d = some (.sl e l cap fz s1) ∧
    ((SlR σ (m d) e l cap fz ∧ match w with
      | none => a = .sref (m d) (σ.getO (m d)).st 0 l.length
      | some (lo, n) => lo + n ≤ l.length ∧ a = .sref (m d) (σ.getO (m d)).st lo n) ∨
    (mn = true ∧ a = .nil ∧ l = [] ∧ ∀ lo n, w = some (lo, n) → lo = 0 ∧ n = 0))

def RC (τ : TState) (σ : State) (m : Nat → Slot) : TC → List AV → Prop
  | .any, as => as.length = 1
  | .v t x, as => as = t.cells x
  | .bc b, as => as = [.bool b]
  | .nil, as => as = [.nil]
  | .lst e l ds, as => ∃ a, as = [a] ∧ LstR σ e l ds a
  | .own d w mn, as => ∃ a, as = [a] ∧ OwnR τ σ m d w mn a
  | .spare d, as => ∃ e l cap fz s1 lo n, τ.getO d = some (.sl e l cap fz s1) ∧ SlR σ (m d) e l cap fz ∧ l.length ≤ lo ∧ as = [.spare (m d) (σ.getO (m d)).st lo n]
  | .vref d off, as => (∃ g cs fz s1, τ.getO d = some (.var g cs fz s1)) ∧ as = [.ref (m d) (σ.getO (m d)).st 0 off]
  | .eref d i off, as => ∃ e l cap fz s1, τ.getO d = some (.sl e l cap fz s1) ∧ i < l.length ∧ as = [.ref (m d) (σ.getO (m d)).st i off]
  | .aref d off n e j off2, as => (∃ g cs fz s1, τ.getO d = some (.var g cs fz s1)) ∧ 0 ≤ j ∧ j < n ∧ as = [.ref (m d) (σ.getO (m d)).st 0 (off + j.toNat * e.width + off2)]
  | .rp t x off ds, as => (∃ fs r, RpL (t.tcs x) fs ∧ as = [.ro ((fs ++ r).drop off)]) ∨
      ∃ s ∈ ds, ∃ st c xs i, σ.getO s = ⟨st, some ⟨t.width, xs, false, c⟩⟩ ∧ xs[i]? = some (t.enc x) ∧ as = [.ref s st i off]
  where
  /-- Cells that read as the value: a list in them may be nil. -/
  RpL : List TC → List AV → Prop
    | [], as => as = []
    | .v t x :: cs, as => ∃ q, as = t.cells x ++ q ∧ RpL cs q
    | .lst e l _ :: cs, as => ∃ a q, as = a :: q ∧ (a = .sl e.width (l.map e.enc) ∨ (l = [] ∧ a = .nil)) ∧ RpL cs q
    | _ :: _, _ => False

def RCs (τ : TState) (σ : State) (m : Nat → Slot) : List TC → List AV → Prop
  | [], as => as = []
  | c :: cs, as => ∃ p q, as = p ++ q ∧ RC τ σ m c p ∧ RCs τ σ m cs q

/-- A value of cells. -/
def RX (τ : TState) (σ : State) (m : Nat → Slot) (g : Bool) (cs : List TC) (a : AV) : Prop :=
  if g then ∃ as, a = .agg as ∧ RCs τ σ m cs as else (∃ x, cs = [x]) ∧ RCs τ σ m cs [a]

def RT (τ : TState) (σ : State) (m : Nat → Slot) : TV → AV → Prop
  | .c x, a => RC τ σ m x [a]
  | .agg cs, a => ∃ as, a = .agg as ∧ RCs τ σ m cs as
  | .fn g fs cs, a => ∃ x y, a = .fn g x y ∧ x.length = fs.length ∧ y.length = cs.length ∧ (∀ (j : Nat) (c : TC) (u : AV), fs[j]? = some c → x[j]? = some u → RC τ σ m c [u]) ∧ (∀ (j : Nat) (c : TC) (u : AV), cs[j]? = some c → y[j]? = some u → RC τ σ m c [u])
  | .tup vs, a => ∃ as, a = .tuple as ∧ as.length = vs.length ∧ ∀ (j : Nat) (p : Bool × List TC) (u : AV), vs[j]? = some p → as[j]? = some u → RX τ σ m p.1 p.2 u

def RO (τ : TState) (σ : State) (m : Nat → Slot) (s : Slot) : TO → Prop
  | .sl e l cap fz s1 => (SlR σ s e l cap fz ∨ (l = [] ∧ s1 = false)) ∧ (s1 = true → (σ.getO s).st = 1)
  | .var g cs fz s1 => (∃ st e c x, σ.getO s = ⟨st, some ⟨e, [x], true, c⟩⟩ ∧ RX τ σ m g cs x ∧ (g = false → x.plain = true)) ∧ (fz = false → σ.getF s = false) ∧ (s1 = true → (σ.getO s).st = 1)
  | .gone => (σ.getO s).obj = none

structure Rel (m : Nat → Slot) (τ : TState) (σ : State) : Prop where
  len : σ.tm.length = τ.tm.length
  tm : ∀ n, RT τ σ m (τ.getT n) (σ.getT n)
  inj : ∀ d d', d ≠ d' → τ.getO d ≠ none → τ.getO d' ≠ none → m d ≠ m d'
  at_ : ∀ d, τ.getO d ≠ none → m d ∈ τ.at_ d
  ob : ∀ d o, τ.getO d = some o → RO τ σ m (m d) o

/-! ### First facts -/
section
variable {τ τ' : TState} {σ σ' : State} {m m' : Nat → Slot}

theorem RC.length {x : TC} {as : List AV} (h : RC τ σ m x as) : as.length = x.width := by
  cases x with
  | any => exact h
  | v t x => rw [show as = t.cells x from h]; exact t.len_cells x
  | bc b => rw [show as = [.bool b] from h]; rfl
  | nil => rw [show as = [.nil] from h]; rfl
  | lst e l ds => obtain ⟨a, rfl, _⟩ := h; rfl
  | own d w mn => obtain ⟨a, rfl, _⟩ := h; rfl
  | spare d => obtain ⟨_, _, _, _, _, _, _, _, _, _, rfl⟩ := h; rfl
  | vref d off => obtain ⟨_, rfl⟩ := h; rfl
  | eref d i off => obtain ⟨_, _, _, _, _, _, _, rfl⟩ := h; rfl
  | aref d off n e j off2 => obtain ⟨_, _, _, rfl⟩ := h; rfl
  | rp t x off ds =>
    rcases h with ⟨_, _, _, rfl⟩ | ⟨_, _, _, _, _, _, _, _, rfl⟩ <;> rfl

theorem RCs.length : ∀ {cs : List TC} {as : List AV}, RCs τ σ m cs as → as.length = widths cs
  | [], as, h => by rw [show as = [] from h]; rfl
  | c :: cs, as, ⟨p, q, h1, h2, h3⟩ => by
    rw [h1, List.length_append, h2.length, RCs.length h3]; rfl

theorem RCs.append : ∀ {cs ds : List TC} {as bs : List AV}, RCs τ σ m cs as → RCs τ σ m ds bs → RCs τ σ m (cs ++ ds) (as ++ bs)
  | [], ds, as, bs, h, k => by rw [show as = [] from h]; exact k
  | c :: cs, ds, as, bs, ⟨p, q, h1, h2, h3⟩, k => ⟨p, q ++ bs, by rw [h1, List.append_assoc], h2, h3.append k⟩
theorem RCs.split : ∀ {cs ds : List TC} {as : List AV}, RCs τ σ m (cs ++ ds) as → ∃ p q, as = p ++ q ∧ RCs τ σ m cs p ∧ RCs τ σ m ds q
  | [], ds, as, h => ⟨[], as, rfl, rfl, h⟩
  | c :: cs, ds, as, ⟨p, q, h1, h2, h3⟩ => by
    obtain ⟨p', q', h4, h5, h6⟩ := RCs.split h3
    exact ⟨p ++ p', q', by rw [h1, h4, List.append_assoc], ⟨p, p', rfl, h2, h5⟩, h6⟩
theorem RCs.single {c : TC} {as : List AV} : RCs τ σ m [c] as ↔ RC τ σ m c as := by
  constructor
  · rintro ⟨p, q, h1, h2, h3⟩
    rw [show q = [] from h3, List.append_nil] at h1
    rw [h1]; exact h2
  · intro h
    exact ⟨as, [], by simp, h, rfl⟩

/-- What is known is one cell each, and no struct. -/
theorem RC.one {x : TC} {as : List AV} (h : RC τ σ m x as) (hs : x.solid = true) : ∀ a ∈ as, a.one = true := by
  intro a ha
  cases x with
  | any => cases hs
  | v t x => rw [show as = t.cells x from h] at ha; exact AV.leaf_one (t.cells_leaf x a ha)
  | bc b => rw [show as = [.bool b] from h] at ha; simp at ha; subst ha; rfl
  | nil => rw [show as = [.nil] from h] at ha; simp at ha; subst ha; rfl
  | lst e l ds =>
    obtain ⟨b, rfl, h⟩ := h
    simp at ha; subst ha
    rcases h with rfl | ⟨_, rfl⟩ | ⟨_, _, _, _, _, _, _, _, _, _, _, rfl⟩ <;> rfl
  | own d w mn =>
    obtain ⟨b, rfl, e, l, cap, fz, s1, _, h⟩ := h
    simp at ha; subst ha
    rcases h with ⟨_, h⟩ | ⟨_, rfl, _⟩
    · cases w with
      | none => rw [show a = _ from h]; rfl
      | some p => rw [h.2]; rfl
    · rfl
  | spare d => obtain ⟨_, _, _, _, _, _, _, _, _, _, rfl⟩ := h; simp at ha; subst ha; rfl
  | vref d off => obtain ⟨_, rfl⟩ := h; simp at ha; subst ha; rfl
  | eref d i off => obtain ⟨_, _, _, _, _, _, _, rfl⟩ := h; simp at ha; subst ha; rfl
  | aref d off n e j off2 => obtain ⟨_, _, _, rfl⟩ := h; simp at ha; subst ha; rfl
  | rp t x off ds =>
    rcases h with ⟨_, _, _, rfl⟩ | ⟨_, _, _, _, _, _, _, _, rfl⟩ <;> (simp at ha; subst ha; rfl)
theorem RCs.one : ∀ {cs : List TC} {as : List AV}, RCs τ σ m cs as → cs.all TC.solid = true → ∀ a ∈ as, a.one = true
  | [], as, h, _, a, ha => by rw [show as = [] from h] at ha; cases ha
  | c :: cs, as, ⟨p, q, h1, h2, h3⟩, hs, a, ha => by
    simp only [List.all_cons, Bool.and_eq_true] at hs
    rw [h1, List.mem_append] at ha
    rcases ha with ha | ha
    · exact h2.one hs.1 a ha
    · exact h3.one hs.2 a ha

/-! ### What else happens -/
/-- The object of this name is still there, as long as before. -/
def Stays (τ τ' : TState) (σ σ' : State) (m m' : Nat → Slot) (d : Nat) : Prop :=
  m' d = m d ∧ (σ'.getO (m d)).st = (σ.getO (m d)).st ∧
  (∀ e l cap fz s1, τ.getO d = some (.sl e l cap fz s1) → ∃ l' cap' fz' s1', τ'.getO d = some (.sl e l' cap' fz' s1') ∧ l'.length = l.length ∧ (SlR σ (m d) e l cap fz → SlR σ' (m d) e l' cap' fz')) ∧
  (∀ g cs fz s1, τ.getO d = some (.var g cs fz s1) → ∃ g' cs' fz' s1', τ'.getO d = some (.var g' cs' fz' s1'))

theorem LstR.frame {e : Ty} {l : List e.D} {ds : List Slot} {a : AV} (h : LstR σ e l ds a) (hs : ∀ s ∈ ds, σ'.getO s = σ.getO s) : LstR σ' e l ds a := by
  rcases h with h | h | ⟨s, h1, st, c, lo, len, xs, h2, h3⟩
  · exact .inl h
  · exact .inr (.inl h)
  · exact .inr (.inr ⟨s, h1, st, c, lo, len, xs, by rw [hs s h1]; exact h2, h3⟩)

theorem RC.frame {x : TC} {as : List AV} (h : RC τ σ m x as) (hn : ∀ d ∈ x.names, Stays τ τ' σ σ' m m' d) (hs : ∀ s ∈ x.rslots, σ'.getO s = σ.getO s) : RC τ' σ' m' x as := by
  cases x with
  | any => exact h
  | v t x => exact h
  | bc b => exact h
  | nil => exact h
  | lst e l ds => obtain ⟨a, rfl, h⟩ := h; exact ⟨a, rfl, h.frame hs⟩
  | own d w mn =>
    obtain ⟨a, rfl, e, l, cap, fz, s1, h1, h⟩ := h
    obtain ⟨k1, k2, k3, _⟩ := hn d (by simp [TC.names])
    obtain ⟨l', cap', fz', s1', g1, g2, g3⟩ := k3 e l cap fz s1 h1
    refine ⟨a, rfl, e, l', cap', fz', s1', g1, ?_⟩
    rcases h with ⟨h2, h3⟩ | ⟨h2, h3, h4, h5⟩
    · left
      rw [k1]
      refine ⟨g3 h2, ?_⟩
      cases w with
      | none => simp only at h3 ⊢; rw [k2, g2]; exact h3
      | some p => simp only at h3 ⊢; rw [k2, g2]; exact h3
    · right
      refine ⟨h2, h3, ?_, h5⟩
      apply List.length_eq_zero_iff.1
      rw [g2, h4]; rfl
  | spare d =>
    obtain ⟨e, l, cap, fz, s1, lo, n, h1, h2, h3, rfl⟩ := h
    obtain ⟨k1, k2, k3, _⟩ := hn d (by simp [TC.names])
    obtain ⟨l', cap', fz', s1', g1, g2, g3⟩ := k3 e l cap fz s1 h1
    exact ⟨e, l', cap', fz', s1', lo, n, g1, by rw [k1]; exact g3 h2, by rw [g2]; exact h3, by rw [k1, k2]⟩
  | vref d off =>
    obtain ⟨⟨g, cs, fz, s1, h1⟩, rfl⟩ := h
    obtain ⟨k1, k2, _, k4⟩ := hn d (by simp [TC.names])
    exact ⟨k4 g cs fz s1 h1, by rw [k1, k2]⟩
  | eref d i off =>
    obtain ⟨e, l, cap, fz, s1, h1, h2, rfl⟩ := h
    obtain ⟨k1, k2, k3, _⟩ := hn d (by simp [TC.names])
    obtain ⟨l', cap', fz', s1', g1, g2, g3⟩ := k3 e l cap fz s1 h1
    exact ⟨e, l', cap', fz', s1', g1, by rw [g2]; exact h2, by rw [k1, k2]⟩
  | aref d off n e j off2 =>
    obtain ⟨⟨g, cs, fz, s1, h1⟩, h2, h3, rfl⟩ := h
    obtain ⟨k1, k2, _, k4⟩ := hn d (by simp [TC.names])
    exact ⟨k4 g cs fz s1 h1, h2, h3, by rw [k1, k2]⟩
  | rp t x off ds =>
    rcases h with h | ⟨s, h1, st, c, xs, i, h2, h3⟩
    · exact .inl h
    · exact .inr ⟨s, h1, st, c, xs, i, by rw [hs s h1]; exact h2, h3⟩

theorem RCs.frame : ∀ {cs : List TC} {as : List AV}, RCs τ σ m cs as → (∀ c ∈ cs, ∀ d ∈ c.names, Stays τ τ' σ σ' m m' d) → (∀ c ∈ cs, ∀ s ∈ c.rslots, σ'.getO s = σ.getO s) → RCs τ' σ' m' cs as
  | [], _, h, _, _ => h
  | c :: cs, as, ⟨p, q, h1, h2, h3⟩, hn, hs => ⟨p, q, h1, h2.frame (hn c (by simp)) (hs c (by simp)), h3.frame (fun c hc => hn c (by simp [hc])) (fun c hc => hs c (by simp [hc]))⟩
theorem RX.frame {g : Bool} {cs : List TC} {a : AV} (h : RX τ σ m g cs a) (hn : ∀ c ∈ cs, ∀ d ∈ c.names, Stays τ τ' σ σ' m m' d) (hs : ∀ c ∈ cs, ∀ s ∈ c.rslots, σ'.getO s = σ.getO s) : RX τ' σ' m' g cs a := by
  unfold RX at h ⊢
  cases g with
  | true => obtain ⟨as, h1, h2⟩ := h; exact ⟨as, h1, h2.frame hn hs⟩
  | false => exact ⟨h.1, RCs.frame h.2 hn hs⟩

/-- The cells of a value. -/
def TV.all : TV → List TC
  | .c x => [x]
  | .agg cs => cs
  | .fn _ a b => a ++ b
  | .tup vs => vs.flatMap (·.2)
def TO.all : TO → List TC
  | .var _ cs _ _ => cs
  | _ => []
theorem RT.frame {v : TV} {a : AV} (h : RT τ σ m v a) (hn : ∀ c ∈ v.all, ∀ d ∈ c.names, Stays τ τ' σ σ' m m' d) (hs : ∀ c ∈ v.all, ∀ s ∈ c.rslots, σ'.getO s = σ.getO s) : RT τ' σ' m' v a := by
  cases v with
  | c x => exact RC.frame h (hn x (by simp [TV.all])) (hs x (by simp [TV.all]))
  | agg cs => obtain ⟨as, h1, h2⟩ := h; exact ⟨as, h1, h2.frame hn hs⟩
  | fn g fs cs =>
    obtain ⟨x, y, h1, h2, h3, h4, h5⟩ := h
    refine ⟨x, y, h1, h2, h3, fun j c u hc hu => (h4 j c u hc hu).frame (hn c ?_) (hs c ?_), fun j c u hc hu => (h5 j c u hc hu).frame (hn c ?_) (hs c ?_)⟩
    · exact List.mem_append_left _ (List.mem_of_getElem? hc)
    · exact List.mem_append_left _ (List.mem_of_getElem? hc)
    · exact List.mem_append_right _ (List.mem_of_getElem? hc)
    · exact List.mem_append_right _ (List.mem_of_getElem? hc)
  | tup vs =>
    obtain ⟨as, h1, h2, h3⟩ := h
    refine ⟨as, h1, h2, fun j p u hp hu => (h3 j p u hp hu).frame (fun c hc => hn c ?_) (fun c hc => hs c ?_)⟩
    · exact List.mem_flatMap.2 ⟨p, List.mem_of_getElem? hp, hc⟩
    · exact List.mem_flatMap.2 ⟨p, List.mem_of_getElem? hp, hc⟩
end
end Go.Vm
/- How what is known goes on. -/
namespace Go.Vm

section
variable {τ τ' : TState} {σ σ' : State} {m m' : Nat → Slot}

def TState.Has (τ : TState) (c : TC) : Prop := (∃ n, c ∈ (τ.getT n).all) ∨ ∃ d o, τ.getO d = some o ∧ c ∈ o.all

theorem meets_iff {a b : List Nat} : meets a b = true ↔ ∃ x ∈ a, x ∈ b := by simp [meets]
theorem meets_false {a b : List Nat} : meets a b = false ↔ ∀ x ∈ a, x ∉ b := by
  rw [← Bool.not_eq_true, meets_iff]; simp

theorem TC.drop_cases (ns ss : List Nat) (x : TC) : (x.drop ns ss = .any ∧ x.width = 1) ∨ (x.drop ns ss = x ∧ (∀ d ∈ x.names, d ∉ ns) ∧ ∀ s ∈ x.rslots, s ∉ ss) := by
  unfold TC.drop
  by_cases h : (meets x.names ns || meets x.rslots ss) = true
  · left
    refine ⟨by simp [h], ?_⟩
    cases x with
    | v t x => simp [TC.names, TC.rslots, meets] at h
    | _ => rfl
  · right
    simp only [Bool.not_eq_true, Bool.or_eq_false_iff] at h
    refine ⟨by simp [h.1, h.2], meets_false.1 h.1, meets_false.1 h.2⟩

theorem RC.dropped {x : TC} {as : List AV} (ns ss : List Nat) (h : RC τ σ m x as) : RC τ σ m (x.drop ns ss) as := by
  rcases TC.drop_cases ns ss x with ⟨h1, h2⟩ | ⟨h1, _⟩
  · rw [h1]; show as.length = 1; rw [h.length, h2]
  · rw [h1]; exact h
theorem TC.dropped_names {ns ss : List Nat} {x : TC} : (∀ d ∈ (x.drop ns ss).names, d ∉ ns ∧ d ∈ x.names) ∧ ∀ s ∈ (x.drop ns ss).rslots, s ∉ ss ∧ s ∈ x.rslots := by
  rcases TC.drop_cases ns ss x with ⟨h1, _⟩ | ⟨h1, h2, h3⟩
  · rw [h1]; simp [TC.names, TC.rslots]
  · rw [h1]; exact ⟨fun d hd => ⟨h2 d hd, hd⟩, fun s hs => ⟨h3 s hs, hs⟩⟩

theorem RCs.dropped (ns ss : List Nat) : ∀ {cs : List TC} {as : List AV}, RCs τ σ m cs as → RCs τ σ m (cs.map (TC.drop ns ss)) as
  | [], _, h => h
  | _ :: _, _, ⟨p, q, h1, h2, h3⟩ => ⟨p, q, h1, h2.dropped ns ss, h3.dropped ns ss⟩
theorem RX.dropped {g : Bool} {cs : List TC} {a : AV} (ns ss : List Nat) (h : RX τ σ m g cs a) : RX τ σ m g (cs.map (TC.drop ns ss)) a := by
  unfold RX at h ⊢
  cases g with
  | true => obtain ⟨as, h1, h2⟩ := h; exact ⟨as, h1, h2.dropped ns ss⟩
  | false => obtain ⟨⟨x, rfl⟩, h⟩ := h; exact ⟨⟨_, rfl⟩, RCs.dropped ns ss h⟩
theorem RT.dropped {v : TV} {a : AV} (ns ss : List Nat) (h : RT τ σ m v a) : RT τ σ m (v.mapC (TC.drop ns ss)) a := by
  cases v with
  | c x => exact RC.dropped ns ss h
  | agg cs => obtain ⟨as, h1, h2⟩ := h; exact ⟨as, h1, h2.dropped ns ss⟩
  | fn g fs cs =>
    obtain ⟨x, y, h1, h2, h3, h4, h5⟩ := h
    refine ⟨x, y, h1, by simpa using h2, by simpa using h3, fun j c u hc hu => ?_, fun j c u hc hu => ?_⟩
    · simp only [List.getElem?_map, Option.map_eq_some_iff] at hc
      obtain ⟨c0, hc0, rfl⟩ := hc
      exact (h4 j c0 u hc0 hu).dropped ns ss
    · simp only [List.getElem?_map, Option.map_eq_some_iff] at hc
      obtain ⟨c0, hc0, rfl⟩ := hc
      exact (h5 j c0 u hc0 hu).dropped ns ss
  | tup vs =>
    obtain ⟨as, h1, h2, h3⟩ := h
    refine ⟨as, h1, by simpa using h2, fun j p u hp hu => ?_⟩
    simp only [List.getElem?_map, Option.map_eq_some_iff] at hp
    obtain ⟨p0, hp0, rfl⟩ := hp
    exact (h3 j p0 u hp0 hu).dropped ns ss

/-! ### Lookups in states -/
theorem getD_map {α β : Type} (f : α → β) (d : α) (l : List α) (n : Nat) : (l.map f).getD n (f d) = f (l.getD n d) := by
  simp only [List.getD_eq_getElem?_getD, List.getElem?_map]
  cases l[n]? <;> rfl
theorem TState.getT_mapC (ns ss : List Nat) (n : Nat) : (τ.drop ns ss).getT n = (τ.getT n).mapC (TC.drop ns ss) := by
  show (τ.tm.map (TV.mapC (TC.drop ns ss))).getD n (.c .any) = _
  exact getD_map (TV.mapC (TC.drop ns ss)) (.c .any) τ.tm n
theorem TState.find_drop (ns ss : List Nat) (d : Nat) : lookT d (τ.drop ns ss).ob = if ns.contains d then none else (lookT d τ.ob).map fun p => (p.1, p.2.mapC (TC.drop ns ss)) := by
  unfold TState.drop TState.mapC
  have := lookT_filter d (fun x => !ns.contains x) (τ.ob.map fun p => (p.1, p.2.1, p.2.2.mapC (TC.drop ns ss)))
  rw [this]
  have h2 := lookT_map (fun (p : List Slot × TO) => (p.1, p.2.mapC (TC.drop ns ss))) d τ.ob
  rw [h2]
  cases ns.contains d <;> rfl
theorem TState.getO_drop (ns ss : List Nat) (d : Nat) : (τ.drop ns ss).getO d = if ns.contains d then none else (τ.getO d).map (TO.mapC (TC.drop ns ss)) := by
  unfold TState.getO
  rw [TState.find_drop]
  cases ns.contains d with
  | true => rfl
  | false => simp [Option.map_map, Function.comp_def]
theorem TState.at_drop {ns ss : List Nat} {d : Nat} (h : ¬ d ∈ ns) : (τ.drop ns ss).at_ d = τ.at_ d := by
  unfold TState.at_
  rw [TState.find_drop]
  simp [h, Option.map_map, Function.comp_def]
theorem TState.getO_put (d : Nat) (ss : List Slot) (o : TO) (d' : Nat) : (τ.putO d ss o).getO d' = if d' = d then some o else τ.getO d' := by
  unfold TState.getO TState.putO
  simp only [lookT]
  by_cases h : d' = d
  · subst h; simp
  · have h' : (d == d') = false := by simpa using fun e => h e.symm
    have := lookT_filter d' (fun x => !(x == d)) τ.ob
    rw [h', this]
    simp [h]
theorem TState.at_put (d : Nat) (ss : List Slot) (o : TO) (d' : Nat) : (τ.putO d ss o).at_ d' = if d' = d then ss else τ.at_ d' := by
  unfold TState.at_ TState.putO
  simp only [lookT]
  by_cases h : d' = d
  · subst h; simp
  · have h' : (d == d') = false := by simpa using fun e => h e.symm
    have := lookT_filter d' (fun x => !(x == d)) τ.ob
    rw [h', this]
    simp [h]
theorem TState.getT_put (d : Nat) (ss : List Slot) (o : TO) (n : Nat) : (τ.putO d ss o).getT n = τ.getT n := rfl

theorem TV.all_mapC (f : TC → TC) (v : TV) : (v.mapC f).all = v.all.map f := by
  cases v with
  | c x => rfl
  | agg cs => rfl
  | fn g a b => simp [TV.mapC, TV.all]
  | tup vs => simp [TV.mapC, TV.all, List.flatMap_map, List.map_flatMap]
theorem TO.all_mapC (f : TC → TC) (o : TO) : (o.mapC f).all = o.all.map f := by cases o <;> rfl

theorem TState.has_drop {ns ss : List Nat} {c : TC} (h : (τ.drop ns ss).Has c) : (∃ c0, τ.Has c0 ∧ c = c0.drop ns ss) ∧ (∀ d ∈ c.names, d ∉ ns) ∧ ∀ s ∈ c.rslots, s ∉ ss := by
  have key : ∃ c0, τ.Has c0 ∧ c = c0.drop ns ss := by
    rcases h with ⟨n, h⟩ | ⟨d, o, h1, h2⟩
    · rw [TState.getT_mapC, TV.all_mapC] at h
      obtain ⟨c0, h3, rfl⟩ := List.mem_map.1 h
      exact ⟨c0, .inl ⟨n, h3⟩, rfl⟩
    · rw [TState.getO_drop] at h1
      split at h1
      · cases h1
      · simp only [Option.map_eq_some_iff] at h1
        obtain ⟨o0, h3, rfl⟩ := h1
        rw [TO.all_mapC] at h2
        obtain ⟨c0, h4, rfl⟩ := List.mem_map.1 h2
        exact ⟨c0, .inr ⟨d, o0, h3, h4⟩, rfl⟩
  obtain ⟨c0, h1, rfl⟩ := key
  exact ⟨⟨c0, h1, rfl⟩, fun d hd => (TC.dropped_names.1 d hd).1, fun s hs => (TC.dropped_names.2 s hs).1⟩

/-! ### Forgetting -/
theorem Stays.drop {ns ss : List Nat} {d : Nat} (h : d ∉ ns) : Stays τ (τ.drop ns ss) σ σ m m d := by
  refine ⟨rfl, rfl, fun e l cap fz s1 ho => ?_, fun g cs fz s1 ho => ?_⟩
  · exact ⟨l, cap, fz, s1, by rw [TState.getO_drop, ho]; simp [h, TO.mapC], rfl, id⟩
  · exact ⟨g, cs.map (TC.drop ns ss), fz, s1, by rw [TState.getO_drop, ho]; simp [h, TO.mapC]⟩

theorem Rel.drop (h : Rel m τ σ) (ns ss : List Nat) : Rel m (τ.drop ns ss) σ where
  len := by rw [h.len]; simp [TState.drop, TState.mapC]
  tm n := by
    rw [TState.getT_mapC]
    refine RT.frame ((h.tm n).dropped ns ss) (fun c hc d hd => ?_) (fun c _ s _ => rfl)
    rw [TV.all_mapC] at hc
    obtain ⟨c0, _, rfl⟩ := List.mem_map.1 hc
    exact Stays.drop (TC.dropped_names.1 d hd).1
  inj d d' hd h1 h2 := by
    refine h.inj d d' hd ?_ ?_
    · intro e; rw [TState.getO_drop, e] at h1; simp at h1
    · intro e; rw [TState.getO_drop, e] at h2; simp at h2
  at_ d hd := by
    have hn : d ∉ ns := by
      intro e; rw [TState.getO_drop] at hd; simp [e] at hd
    rw [TState.at_drop hn]
    refine h.at_ d fun e => ?_
    rw [TState.getO_drop, e] at hd; simp at hd
  ob d o ho := by
    rw [TState.getO_drop] at ho
    split at ho
    · cases ho
    · simp only [Option.map_eq_some_iff] at ho
      obtain ⟨o0, h1, rfl⟩ := ho
      have := h.ob d o0 h1
      cases o0 with
      | sl e l cap fz s1 => exact this
      | gone => exact this
      | var g cs fz s1 =>
        obtain ⟨⟨st, e, c, x, k1, k2, k3⟩, k4, k5⟩ := this
        refine ⟨⟨st, e, c, x, k1, ?_, k3⟩, k4, k5⟩
        refine RX.frame (k2.dropped ns ss) (fun c hc d hd => ?_) (fun c _ s _ => rfl)
        obtain ⟨c0, _, rfl⟩ := List.mem_map.1 hc
        exact Stays.drop (TC.dropped_names.1 d hd).1

theorem TState.mem_namesAt {ss : List Slot} {d : Nat} (h : τ.getO d ≠ none) (hm : ∃ s ∈ τ.at_ d, s ∈ ss) : d ∈ τ.namesAt ss := by
  unfold TState.getO at h
  cases hl : lookT d τ.ob with
  | none => rw [hl] at h; exact absurd rfl h
  | some p =>
    obtain ⟨s, h1, h2⟩ := hm
    unfold TState.at_ at h1
    rw [hl] at h1
    unfold TState.namesAt
    refine List.mem_map.2 ⟨(d, p), List.mem_filter.2 ⟨lookT_mem hl, ?_⟩, rfl⟩
    exact meets_iff.2 ⟨s, h1, h2⟩

/-! ### Changes -/
def upd (m : Nat → Slot) (d : Nat) (s : Slot) : Nat → Slot := fun x => if x = d then s else m x
theorem upd_self {m : Nat → Slot} {d : Nat} : upd m d (m d) = m := by funext x; unfold upd; split <;> simp_all
theorem upd_at {m : Nat → Slot} {d : Nat} {s : Slot} : upd m d s d = s := by simp [upd]
theorem upd_ne {m : Nat → Slot} {d x : Nat} {s : Slot} (h : x ≠ d) : upd m d s x = m x := by simp [upd, h]

theorem Rel.put (h : Rel m τ σ) {d : Nat} {s : Slot} {ss : List Slot} {o : TO} (hm : s ∈ ss) (hT : ∀ n, σ'.getT n = σ.getT n) (hl : σ'.tm.length = σ.tm.length)
    (hO : ∀ d', d' ≠ d → τ.getO d' ≠ none → σ'.getO (m d') = σ.getO (m d') ∧ σ'.getF (m d') = σ.getF (m d'))
    (hne : ∀ d', d' ≠ d → τ.getO d' ≠ none → m d' ≠ s)
    (hr : ∀ c, τ.Has c → ∀ s' ∈ c.rslots, σ'.getO s' = σ.getO s')
    (hd : (∀ c, τ.Has c → d ∉ c.names) ∨ Stays τ (τ.putO d ss o) σ σ' m (upd m d s) d)
    (ho : RO (τ.putO d ss o) σ' (upd m d s) s o) : Rel (upd m d s) (τ.putO d ss o) σ' := by
  have stays : ∀ c, τ.Has c → ∀ d' ∈ c.names, τ.getO d' ≠ none → Stays τ (τ.putO d ss o) σ σ' m (upd m d s) d' := by
    intro c hc d' hd' hdn
    by_cases e : d' = d
    · subst e
      rcases hd with hd | hd
      · exact absurd hd' (hd c hc)
      · exact hd
    · obtain ⟨k1, k2⟩ := hO d' e hdn
      refine ⟨upd_ne e, by rw [k1], fun e' l cap fz s1 hl => ⟨l, cap, fz, s1, by rw [TState.getO_put, if_neg e]; exact hl, rfl, fun hs => ?_⟩, fun g cs fz s1 hg => ⟨g, cs, fz, s1, by rw [TState.getO_put, if_neg e]; exact hg⟩⟩
      obtain ⟨g1, g2⟩ := hs
      exact ⟨by rw [k1]; exact g1, fun hz => by rw [k2]; exact g2 hz⟩
  -- a name that is mentioned and has no object would be of nothing
  have there : ∀ (c : TC) (as : List AV), RC τ σ m c as → ∀ d' ∈ c.names, τ.getO d' ≠ none := by
    intro c as hc d' hd'
    cases c with
    | own d0 w mn => obtain ⟨_, _, _, _, _, _, _, h1, _⟩ := hc; simp [TC.names] at hd'; subst hd'; rw [h1]; simp
    | spare d0 => obtain ⟨_, _, _, _, _, _, _, h1, _⟩ := hc; simp [TC.names] at hd'; subst hd'; rw [h1]; simp
    | vref d0 off => obtain ⟨⟨_, _, _, _, h1⟩, _⟩ := hc; simp [TC.names] at hd'; subst hd'; rw [h1]; simp
    | eref d0 i off => obtain ⟨_, _, _, _, _, h1, _⟩ := hc; simp [TC.names] at hd'; subst hd'; rw [h1]; simp
    | aref d0 off n e j off2 => obtain ⟨⟨_, _, _, _, h1⟩, _⟩ := hc; simp [TC.names] at hd'; subst hd'; rw [h1]; simp
    | _ => simp [TC.names] at hd'
  have thereL : ∀ (cs : List TC) (as : List AV), RCs τ σ m cs as → ∀ c ∈ cs, ∀ d' ∈ c.names, τ.getO d' ≠ none := by
    intro cs
    induction cs with
    | nil => intro as _ c hc; cases hc
    | cons c0 cs ih =>
      intro as ⟨p, q, h1, h2, h3⟩ c hc
      simp only [List.mem_cons] at hc
      rcases hc with rfl | hc
      · exact there c p h2
      · exact ih q h3 c hc
  have thereX : ∀ (g : Bool) (cs : List TC) (a : AV), RX τ σ m g cs a → ∀ c ∈ cs, ∀ d' ∈ c.names, τ.getO d' ≠ none := by
    intro g cs a hx
    unfold RX at hx
    cases g with
    | true => obtain ⟨as, _, h2⟩ := hx; exact thereL cs as h2
    | false => exact thereL cs [a] hx.2
  have thereT : ∀ (v : TV) (a : AV), RT τ σ m v a → ∀ c ∈ v.all, ∀ d' ∈ c.names, τ.getO d' ≠ none := by
    intro v a hv c hc
    cases v with
    | c x => simp [TV.all] at hc; subst hc; exact there c [a] hv
    | agg cs => obtain ⟨as, _, h2⟩ := hv; exact thereL cs as h2 c hc
    | fn g fs cs =>
      obtain ⟨x, y, h1, h2, h3, h4, h5⟩ := hv
      simp only [TV.all, List.mem_append] at hc
      rcases hc with hc | hc
      · obtain ⟨j, hj, e⟩ := List.mem_iff_getElem.1 hc
        exact there c _ (h4 j c x[j] (by rw [List.getElem?_eq_getElem hj, e]) (List.getElem?_eq_getElem (by omega)))
      · obtain ⟨j, hj, e⟩ := List.mem_iff_getElem.1 hc
        exact there c _ (h5 j c y[j] (by rw [List.getElem?_eq_getElem hj, e]) (List.getElem?_eq_getElem (by omega)))
    | tup vs =>
      obtain ⟨as, h1, h2, h3⟩ := hv
      simp only [TV.all, List.mem_flatMap] at hc
      obtain ⟨p, hp, hc⟩ := hc
      obtain ⟨j, hj, e⟩ := List.mem_iff_getElem.1 hp
      exact thereX p.1 p.2 as[j] (h3 j p as[j] (by rw [List.getElem?_eq_getElem hj, e]) (List.getElem?_eq_getElem (by omega))) c hc
  refine ⟨by rw [hl]; exact h.len, fun n => ?_, fun d1 d2 h12 h1 h2 => ?_, fun d1 h1 => ?_, fun d1 o1 h1 => ?_⟩
  · rw [hT, TState.getT_put]
    refine (h.tm n).frame (fun c hc d' hd' => stays c (.inl ⟨n, hc⟩) d' hd' (thereT _ _ (h.tm n) c hc d' hd')) (fun c hc s' hs' => hr c (.inl ⟨n, hc⟩) s' hs')
  · rw [TState.getO_put] at h1 h2
    by_cases e1 : d1 = d
    · subst e1
      have e2 : d2 ≠ d1 := fun e => h12 e.symm
      rw [if_neg e2] at h2
      rw [upd_at, upd_ne e2]
      exact fun e => hne d2 e2 h2 e.symm
    · rw [if_neg e1] at h1
      by_cases e2 : d2 = d
      · subst e2
        rw [upd_at, upd_ne e1]
        exact hne d1 e1 h1
      · rw [if_neg e2] at h2
        rw [upd_ne e1, upd_ne e2]
        exact h.inj d1 d2 h12 h1 h2
  · rw [TState.getO_put] at h1
    rw [TState.at_put]
    by_cases e1 : d1 = d
    · subst e1; rw [if_pos rfl, upd_at]; exact hm
    · rw [if_neg e1] at h1 ⊢; rw [upd_ne e1]; exact h.at_ d1 h1
  · rw [TState.getO_put] at h1
    by_cases e1 : d1 = d
    · subst e1
      rw [if_pos rfl] at h1
      cases h1
      rw [upd_at]; exact ho
    · rw [if_neg e1] at h1
      rw [upd_ne e1]
      obtain ⟨k1, k2⟩ := hO d1 e1 (by rw [h1]; simp)
      have := h.ob d1 o1 h1
      cases o1 with
      | sl e l cap fz s1 =>
        obtain ⟨g1, g2⟩ := this
        refine ⟨g1.imp (fun g1 => ⟨by rw [k1]; exact g1.1, fun hz => by rw [k2]; exact g1.2 hz⟩) id, fun hs => by rw [k1]; exact g2 hs⟩
      | gone => show (σ'.getO (m d1)).obj = none; rw [k1]; exact this
      | var g cs fz s1 =>
        obtain ⟨⟨st, e, c, x, g1, g2, g3⟩, g4, g5⟩ := this
        refine ⟨⟨st, e, c, x, by rw [k1]; exact g1, ?_, g3⟩, fun hz => by rw [k2]; exact g4 hz, fun hs => by rw [k1]; exact g5 hs⟩
        refine g2.frame (fun c hc d' hd' => stays c (.inr ⟨d1, _, h1, hc⟩) d' hd' (thereX g cs x g2 c hc d' hd')) (fun c hc s' hs' => hr c (.inr ⟨d1, _, h1, hc⟩) s' hs')

def TO.fzOf : TO → Bool
  | .sl _ _ _ fz _ => fz
  | .var _ _ fz _ => fz
  | .gone => true

/-- Nothing that is known is touched. -/
theorem Rel.off (h : Rel m τ σ) (hT : ∀ n, σ'.getT n = σ.getT n) (hl : σ'.tm.length = σ.tm.length) (hO : ∀ d, τ.getO d ≠ none → σ'.getO (m d) = σ.getO (m d))
    (hF : ∀ d o, τ.getO d = some o → o.fzOf = false → σ'.getF (m d) = σ.getF (m d)) (hr : ∀ c, τ.Has c → ∀ s ∈ c.rslots, σ'.getO s = σ.getO s) : Rel m τ σ' := by
  have stays : ∀ d, τ.getO d ≠ none → Stays τ τ σ σ' m m d := by
    intro d hdn
    have k1 := hO d hdn
    refine ⟨rfl, by rw [k1], fun e l cap fz s1 hl => ⟨l, cap, fz, s1, hl, rfl, fun hs => ?_⟩, fun g cs fz s1 hg => ⟨g, cs, fz, s1, hg⟩⟩
    exact ⟨by rw [k1]; exact hs.1, fun hz => by rw [hF d _ hl hz]; exact hs.2 hz⟩
  have there : ∀ (c : TC) (as : List AV), RC τ σ m c as → ∀ d' ∈ c.names, τ.getO d' ≠ none := by
    intro c as hc d' hd'
    cases c with
    | own d0 w mn => obtain ⟨_, _, _, _, _, _, _, h1, _⟩ := hc; simp [TC.names] at hd'; subst hd'; rw [h1]; simp
    | spare d0 => obtain ⟨_, _, _, _, _, _, _, h1, _⟩ := hc; simp [TC.names] at hd'; subst hd'; rw [h1]; simp
    | vref d0 off => obtain ⟨⟨_, _, _, _, h1⟩, _⟩ := hc; simp [TC.names] at hd'; subst hd'; rw [h1]; simp
    | eref d0 i off => obtain ⟨_, _, _, _, _, h1, _⟩ := hc; simp [TC.names] at hd'; subst hd'; rw [h1]; simp
    | aref d0 off n e j off2 => obtain ⟨⟨_, _, _, _, h1⟩, _⟩ := hc; simp [TC.names] at hd'; subst hd'; rw [h1]; simp
    | _ => simp [TC.names] at hd'
  have frC : ∀ (c : TC) (as : List AV), τ.Has c → RC τ σ m c as → RC τ σ' m c as := fun c as hh hc => hc.frame (fun d' hd' => stays d' (there c as hc d' hd')) (hr c hh)
  have frL : ∀ (cs : List TC) (as : List AV), (∀ c ∈ cs, τ.Has c) → RCs τ σ m cs as → RCs τ σ' m cs as := by
    intro cs
    induction cs with
    | nil => intro as _ h; exact h
    | cons c cs ih =>
      intro as hh ⟨p, q, h1, h2, h3⟩
      exact ⟨p, q, h1, frC c p (hh c (by simp)) h2, ih q (fun c hc => hh c (by simp [hc])) h3⟩
  have frX : ∀ (g : Bool) (cs : List TC) (a : AV), (∀ c ∈ cs, τ.Has c) → RX τ σ m g cs a → RX τ σ' m g cs a := by
    intro g cs a hh hx
    unfold RX at hx ⊢
    cases g with
    | true => obtain ⟨as, h1, h2⟩ := hx; exact ⟨as, h1, frL cs as hh h2⟩
    | false => exact ⟨hx.1, frL cs [a] hh hx.2⟩
  refine ⟨by rw [hl]; exact h.len, fun n => ?_, h.inj, h.at_, fun d1 o1 h1 => ?_⟩
  · rw [hT]
    have hv := h.tm n
    have hh : ∀ c ∈ (τ.getT n).all, τ.Has c := fun c hc => .inl ⟨n, hc⟩
    generalize τ.getT n = v at hv hh
    cases v with
    | c x => exact frC x _ (hh x (by simp [TV.all])) hv
    | agg cs => obtain ⟨as, e, h2⟩ := hv; exact ⟨as, e, frL cs as hh h2⟩
    | fn g fs cs =>
      obtain ⟨x, y, k1, k2, k3, k4, k5⟩ := hv
      exact ⟨x, y, k1, k2, k3, fun j c u hc hu => frC c _ (hh c (List.mem_append_left _ (List.mem_of_getElem? hc))) (k4 j c u hc hu),
        fun j c u hc hu => frC c _ (hh c (List.mem_append_right _ (List.mem_of_getElem? hc))) (k5 j c u hc hu)⟩
    | tup vs =>
      obtain ⟨as, k1, k2, k3⟩ := hv
      exact ⟨as, k1, k2, fun j p u hp hu => frX p.1 p.2 u (fun c hc => hh c (List.mem_flatMap.2 ⟨p, List.mem_of_getElem? hp, hc⟩)) (k3 j p u hp hu)⟩
  · have k1 := hO d1 (by rw [h1]; simp)
    have := h.ob d1 o1 h1
    cases o1 with
    | sl e l cap fz s1 =>
      obtain ⟨g1, g2⟩ := this
      exact ⟨g1.imp (fun g1 => ⟨by rw [k1]; exact g1.1, fun hz => by rw [hF d1 _ h1 hz]; exact g1.2 hz⟩) id, fun hs => by rw [k1]; exact g2 hs⟩
    | gone => show (σ'.getO (m d1)).obj = none; rw [k1]; exact this
    | var g cs fz s1 =>
      obtain ⟨⟨st, e, c, x, g1, g2, g3⟩, g4, g5⟩ := this
      exact ⟨⟨st, e, c, x, by rw [k1]; exact g1, frX g cs x (fun c hc => .inr ⟨d1, _, h1, hc⟩) g2, g3⟩, fun hz => by rw [hF d1 _ h1 hz]; exact g4 hz, fun hs => by rw [k1]; exact g5 hs⟩
end
end Go.Vm
/- Reading programs with what they read; cells; values. -/
namespace Go.Vm

/-! ### Reading programs -/
def Does {α : Type} (p : R α) (σ : State) (a : α) (K : List Key) : Prop := p.run σ = some a ∧ ∀ k ∈ p.foot σ, k ∈ K

section
variable {α β : Type} {σ : State} {K : List Key}
theorem Does.ret (a : α) : Does (R.ret a) σ a K := ⟨rfl, by simp [R.foot]⟩
theorem Does.bind {p : R α} {f : α → R β} {a : α} {b : β} (h : Does p σ a K) (k : Does (f a) σ b K) : Does (p.bind f) σ b K := by
  refine ⟨by rw [R.run_bind, h.1]; exact k.1, fun x hx => ?_⟩
  rw [R.foot_bind, h.1] at hx
  rcases List.mem_append.1 hx with hx | hx
  · exact h.2 x hx
  · exact k.2 x hx
theorem Does.mono {p : R α} {a : α} {K' : List Key} (h : Does p σ a K) (hk : ∀ k ∈ K, k ∈ K') : Does p σ a K' := ⟨h.1, fun k hk' => hk k (h.2 k hk')⟩
theorem Does.getT {n : Nat} {k : AV → R α} {a : α} (hn : Key.t n ∈ K) (h : Does (k (σ.getT n)) σ a K) : Does (.getT n k) σ a K := by
  refine ⟨h.1, fun x hx => ?_⟩
  simp only [R.foot, List.mem_cons] at hx
  rcases hx with rfl | hx
  · exact hn
  · exact h.2 x hx
theorem Does.getO {d : Slot} {k : SlotSt → R α} {a : α} (hn : Key.o d ∈ K) (h : Does (k (σ.getO d)) σ a K) : Does (.getO d k) σ a K := by
  refine ⟨h.1, fun x hx => ?_⟩
  simp only [R.foot, List.mem_cons] at hx
  rcases hx with rfl | hx
  · exact hn
  · exact h.2 x hx
theorem Does.getF {d : Slot} {k : Bool → R α} {a : α} (hn : Key.f d ∈ K) (h : Does (k (σ.getF d)) σ a K) : Does (.getF d k) σ a K := by
  refine ⟨h.1, fun x hx => ?_⟩
  simp only [R.foot, List.mem_cons] at hx
  rcases hx with rfl | hx
  · exact hn
  · exact h.2 x hx
theorem Does.opt {x : Option α} {a : α} (h : x = some a) : Does (R.ofOpt x) σ a K := by subst h; exact Does.ret a
theorem Does.opnd (x : Opnd) (hk : ∀ k ∈ x.keys, k ∈ K) : Does x.get σ (x.val σ) K := by
  cases x with
  | t n => exact Does.getT (hk _ (by simp [Opnd.keys])) (Does.ret _)
  | c a => exact Does.ret a
theorem Does.theObj {d st : Nat} {o : Obj} (hk : Key.o d ∈ K) (h : σ.getO d = ⟨st, some o⟩) : Does (theObj d st) σ o K := by
  refine ⟨run_theObj.2 h, fun x hx => ?_⟩
  unfold Vm.theObj at hx
  simp only [R.foot, h, beq_self_eq_true, if_true, R.ofOpt, List.mem_cons, List.not_mem_nil, or_false] at hx
  subst hx; exact hk
theorem Does.frz {d : Slot} (hk : Key.f d ∈ K) : Does (frz d) σ (σ.getF d) K := Does.getF hk (Does.ret _)
theorem Does.mk {d : Slot} {o : Obj} {z : Bool} {v : Nat → AV} {more : List W} (hk : Key.o d ∈ K) :
    Does (mk d o z v more) σ (v ((σ.getO d).st + 1), more ++ [.o d ⟨(σ.getO d).st + 1, some o⟩, .f d z]) K := Does.getO hk (Does.ret _)
end

/-! ### Lists of cells -/
section
variable {τ : TState} {σ : State} {m : Nat → Slot}

theorem RCs.dropW : ∀ {cs cs' : List TC} {as : List AV} {n : Nat}, RCs τ σ m cs as → dropW cs n = some cs' → RCs τ σ m cs' (as.drop n) ∧ n ≤ as.length
  | cs, cs', as, 0, h, hd => by
    cases cs <;> (simp only [Vm.dropW, Option.some.injEq] at hd; subst hd; exact ⟨by simpa using h, Nat.zero_le _⟩)
  | [], cs', as, n + 1, h, hd => by simp [Vm.dropW] at hd
  | c :: cs, cs', as, n + 1, ⟨p, q, h1, h2, h3⟩, hd => by
    simp only [Vm.dropW] at hd
    split at hd
    · rename_i hw
      obtain ⟨k1, k2⟩ := RCs.dropW h3 hd
      have hp := h2.length
      subst h1
      refine ⟨?_, by simp; omega⟩
      rw [List.drop_append, List.drop_eq_nil_of_le (by omega), List.nil_append, hp]
      exact k1
    · cases hd
theorem RCs.takeW : ∀ {cs cs' : List TC} {as : List AV} {n : Nat}, RCs τ σ m cs as → takeW cs n = some cs' → RCs τ σ m cs' (as.take n) ∧ n ≤ as.length
  | cs, cs', as, 0, h, hd => by
    cases cs <;> (simp only [Vm.takeW, Option.some.injEq] at hd; subst hd; exact ⟨by simp; rfl, Nat.zero_le _⟩)
  | [], cs', as, n + 1, h, hd => by simp [Vm.takeW] at hd
  | c :: cs, cs', as, n + 1, ⟨p, q, h1, h2, h3⟩, hd => by
    simp only [Vm.takeW] at hd
    split at hd
    · rename_i hw
      simp only [Option.map_eq_some_iff] at hd
      obtain ⟨cs1, hd, rfl⟩ := hd
      obtain ⟨k1, k2⟩ := RCs.takeW h3 hd
      have hp := h2.length
      subst h1
      refine ⟨⟨p, q.take (n + 1 - c.width), ?_, h2, k1⟩, by simp; omega⟩
      rw [List.take_append, List.take_of_length_le (by omega), hp]
    · cases hd
theorem RCs.putW {cs cs' new : List TC} {as bs : List AV} {off n : Nat} (h : RCs τ σ m cs as) (hn : RCs τ σ m new bs) (hp : putW cs off n new = some cs') :
    RCs τ σ m cs' (as.take off ++ bs ++ as.drop (off + n)) ∧ off + n ≤ as.length ∧ bs.length = n := by
  unfold Vm.putW at hp
  split at hp
  · rename_i a b ha hb
    split at hp
    · rename_i hw
      cases hp
      obtain ⟨k1, k2⟩ := h.takeW ha
      obtain ⟨k3, k4⟩ := h.dropW hb
      exact ⟨(k1.append hn).append k3, k4, by rw [hn.length, hw]⟩
    · cases hp
  · cases hp
theorem RCs.tail {c : TC} {cs : List TC} {as : List AV} (h : RCs τ σ m (c :: cs) as) : ∃ p q, as = p ++ q ∧ RC τ σ m c p ∧ RCs τ σ m cs q := h

theorem RCs.takeT {cs : List TC} {as : List AV} {n : Nat} {agg : Bool} {v : TV} (h : RCs τ σ m cs as) (ht : takeT n agg cs = some v) :
    if agg then n ≤ as.length ∧ RT τ σ m v (.agg (as.take n)) else ∃ a r, as = a :: r ∧ RT τ σ m v a := by
  unfold Vm.takeT at ht
  cases agg with
  | true =>
    simp only [if_true, Option.map_eq_some_iff] at ht ⊢
    obtain ⟨cs', h1, rfl⟩ := ht
    obtain ⟨k1, k2⟩ := h.takeW h1
    exact ⟨k2, _, rfl, k1⟩
  | false =>
    simp only [Bool.false_eq_true, if_false] at ht ⊢
    cases cs with
    | nil => cases ht
    | cons c cs =>
      simp only at ht
      split at ht
      · rename_i hw
        cases ht
        obtain ⟨p, q, h1, h2, h3⟩ := h
        have hp := h2.length
        rw [hw] at hp
        obtain ⟨a, rfl⟩ := List.length_eq_one_iff.1 hp
        exact ⟨a, q, h1, h2⟩
      · cases ht

/-- What is loaded. -/
theorem load_ok {cs : List TC} {as : List AV} {n : Nat} {agg : Bool} {v : TV} {K : List Key} (h : RCs τ σ m cs as) (ht : takeT n agg cs = some v) :
    ∃ a, RT τ σ m v a ∧ Does (if agg then (if n ≤ as.length then R.ret (.agg (as.take n), ([] : List W)) else .fail) else match as with
        | c :: _ => .ret (c, [])
        | [] => .fail) σ (a, []) K := by
  have := h.takeT ht
  cases agg with
  | true =>
    simp only [if_true] at this ⊢
    exact ⟨_, this.2, by rw [if_pos this.1]; exact Does.ret _⟩
  | false =>
    simp only [Bool.false_eq_true, if_false] at this ⊢
    obtain ⟨a, r, rfl, h1⟩ := this
    exact ⟨a, h1, Does.ret _⟩

/-! ### Constants, operands -/
theorem constC_ok (a : AV) : RC τ σ m (constC a) [a] := by
  cases a <;> first | rfl | (show [_].length = 1; rfl)
theorem constL_ok : ∀ (cs : List AV), RCs τ σ m (cs.map constC) cs
  | [] => rfl
  | a :: cs => ⟨[a], cs, rfl, constC_ok a, constL_ok cs⟩
theorem constT_ok (a : AV) : RT τ σ m (constT a) a := by
  unfold constT
  split
  · exact ⟨_, rfl, constL_ok _⟩
  · exact ⟨[], [], rfl, rfl, rfl, by simp, by simp⟩
  · exact constC_ok a
theorem Rel.val (h : Rel m τ σ) (x : Opnd) : RT τ σ m (τ.val x) (x.val σ) := by
  cases x with
  | t n => exact h.tm n
  | c a => exact constT_ok a

theorem asI_ok {v : TV} {a : AV} {k : IntKind} {n : Int} (h : RT τ σ m v a) (hv : asI v = some (k, n)) : a = .int k n := by
  unfold asI at hv
  split at hv
  · cases hv
    have : [a] = [AV.int _ _] := h
    simpa using this
  · cases hv
theorem asB_ok {v : TV} {a : AV} {b : Bool} (h : RT τ σ m v a) (hv : asB v = some b) : a = .bool b := by
  unfold asB at hv
  split at hv
  · cases hv
    have : [a] = [AV.bool _] := h
    simpa using this
  · cases hv
    have : [a] = [AV.bool _] := h
    simpa using this
  · cases hv
theorem asS_ok {v : TV} {a : AV} {b : List UInt8} (h : RT τ σ m v a) (hv : asS v = some b) : a = .str b := by
  unfold asS at hv
  split at hv
  · cases hv
    have : [a] = [AV.str _] := h
    simpa using this
  · cases hv

/-- The cells of an operand. -/
theorem cells_ok {v : TV} {a : AV} {ag : Bool} {cs : List TC} (h : RT τ σ m v a) (hv : v.cells = some (ag, cs)) (hs : cs.all TC.solid = true ∨ ag = true) :
    RCs τ σ m cs a.cells ∧ (ag = true → ∃ as, a = .agg as) ∧ (ag = false → ∃ c, cs = [c]) := by
  cases v with
  | c x =>
    simp only [TV.cells, Option.some.injEq, Prod.mk.injEq] at hv
    obtain ⟨rfl, rfl⟩ := hv
    have h' : RC τ σ m x [a] := h
    rcases hs with hs | hs
    · simp only [List.all_cons, List.all_nil, Bool.and_true] at hs
      have := h'.one hs a (by simp)
      rw [AV.plain_cells (AV.one_plain this)]
      exact ⟨RCs.single.2 h', by simp, fun _ => ⟨x, rfl⟩⟩
    · cases hs
  | agg cs' =>
    simp only [TV.cells, Option.some.injEq, Prod.mk.injEq] at hv
    obtain ⟨rfl, rfl⟩ := hv
    obtain ⟨as, rfl, h⟩ := h
    exact ⟨h, fun _ => ⟨as, rfl⟩, by simp⟩
  | fn => cases hv
  | tup => cases hv
end
end Go.Vm
/- Values without memory. -/
namespace Go.Vm

theorem Ty.len_shape : ∀ (t : Ty), t.shape.length = t.width
  | .int _ => rfl
  | .bool => rfl
  | .str => rfl
  | .list _ => rfl
  | .st b => b.len_shape
  | .pair a b => by simp only [Ty.shape, List.length_append, a.len_shape, b.len_shape, Ty.width]
  | .arr n e => by
    simp only [Ty.shape, Ty.width]
    induction n with
    | zero => simp
    | succ n ih => simp only [List.replicate_succ, List.flatten_cons, List.length_append, ih, e.len_shape]; rw [Nat.succ_mul, Nat.add_comm]

theorem nzL_append : ∀ {s1 s2 : Shape} {p q : List AV}, s1.length = p.length → nzL (s1 ++ s2) (p ++ q) = nzL s1 p ++ nzL s2 q
  | [], s2, [], q, _ => by simp [nzL]
  | [], _, _ :: _, _, h => by simp at h
  | _ :: _, _, [], _, h => by simp at h
  | x :: s1, s2, a :: p, q, h => by simp only [List.cons_append, nzL, nzL_append (s1 := s1) (p := p) (by simpa using h)]
theorem nzL_length : ∀ (s : Shape) (p : List AV), (nzL s p).length = p.length
  | [], p => by cases p <;> rfl
  | _ :: _, [] => rfl
  | _ :: s, _ :: p => by simp [nzL, nzL_length s p]

section
variable {τ : TState} {σ : State} {m : Nat → Slot}

/-- A list by value. -/
theorem LstR.byv {e : Ty} {l : List e.D} {a : AV} (h : LstR σ e l [] a) : nz1 (some e.width) a = .sl e.width (l.map e.enc) := by
  rcases h with rfl | ⟨rfl, rfl⟩ | ⟨s, hs, _⟩
  · rfl
  · rfl
  · cases hs

theorem repT_ok {e : Ty} (ih : ∀ (cs rest : List TC) (y : e.D) (as : List AV), e.take cs = some (y, rest) → RCs τ σ m cs as → (cs.all TC.byv = true ∨ e.flat = true) →
      ∃ p q, as = p ++ q ∧ p.length = e.width ∧ nzL e.shape p = e.cells y ∧ (e.flat = true → p = e.cells y) ∧ RCs τ σ m rest q ∧ (cs.all TC.byv = true → rest.all TC.byv = true)) :
    ∀ (n : Nat) (cs rest : List TC) (y : { l : List e.D // l.length = n }) (as : List AV), repT e.take n cs = some (y, rest) → RCs τ σ m cs as → (cs.all TC.byv = true ∨ e.flat = true) →
      ∃ p q, as = p ++ q ∧ p.length = n * e.width ∧ nzL (List.replicate n e.shape).flatten p = (y.1.map fun x => e.cells x).flatten ∧ (e.flat = true → p = (y.1.map fun x => e.cells x).flatten) ∧ RCs τ σ m rest q ∧ (cs.all TC.byv = true → rest.all TC.byv = true)
  | 0, cs, rest, y, as, h, hc, _ => by
    simp only [repT, Option.some.injEq, Prod.mk.injEq] at h
    obtain ⟨rfl, rfl⟩ := h
    exact ⟨[], as, rfl, by simp, rfl, fun _ => rfl, hc, id⟩
  | n + 1, cs, rest, y, as, h, hc, hb => by
    simp only [repT] at h
    cases h1 : e.take cs with
    | none => simp [h1] at h
    | some p1 =>
      obtain ⟨x, r⟩ := p1
      simp only [h1] at h
      cases h2 : repT e.take n r with
      | none => simp [h2] at h
      | some p2 =>
        obtain ⟨l, q⟩ := p2
        simp only [h2, Option.some.injEq, Prod.mk.injEq] at h
        obtain ⟨rfl, rfl⟩ := h
        obtain ⟨p, q1, rfl, k2, k3, k4, k5, k6⟩ := ih cs r x as h1 hc hb
        obtain ⟨p', q2, rfl, g2, g3, g4, g5, g6⟩ := repT_ok ih n r q l q1 h2 k5 (hb.imp k6 id)
        refine ⟨p ++ p', q2, by simp, by simp [k2, g2, Nat.succ_mul, Nat.add_comm], ?_, fun hf => ?_, g5, fun hh => g6 (k6 hh)⟩
        · simp only [List.replicate_succ, List.flatten_cons, List.map_cons]
          rw [nzL_append (by rw [e.len_shape, k2]), k3, g3]
        · simp only [List.map_cons, List.flatten_cons]
          rw [← k4 hf, ← g4 hf]

theorem Ty.take_ok : ∀ (t : Ty) (cs rest : List TC) (y : t.D) (as : List AV), t.take cs = some (y, rest) → RCs τ σ m cs as → (cs.all TC.byv = true ∨ t.flat = true) →
      ∃ p q, as = p ++ q ∧ p.length = t.width ∧ nzL t.shape p = t.cells y ∧ (t.flat = true → p = t.cells y) ∧ RCs τ σ m rest q ∧ (cs.all TC.byv = true → rest.all TC.byv = true)
  | .bool, cs, rest, y, as, h, hc, hb => by
    cases cs with
    | nil => simp [Ty.take] at h
    | cons c cs =>
      simp only [Ty.take] at h
      obtain ⟨p, q, h1, h2, h3⟩ := hc
      split at h
      · simp only [Option.some.injEq, Prod.mk.injEq] at h
        obtain ⟨rfl, rfl⟩ := h
        exact ⟨p, q, h1, h2.length, by rw [show p = _ from h2]; rfl, fun _ => h2, h3, fun h => by simp only [List.all_cons, Bool.and_eq_true] at h; exact h.2⟩
      · simp only [Option.some.injEq, Prod.mk.injEq] at h
        obtain ⟨rfl, rfl⟩ := h
        exact ⟨p, q, h1, h2.length, by rw [show p = _ from h2]; rfl, fun _ => h2, h3, fun h => by simp only [List.all_cons, Bool.and_eq_true] at h; exact h.2⟩
      · cases h
  | .int k, cs, rest, y, as, h, hc, hb => by
    cases cs with
    | nil => simp [Ty.take] at h
    | cons c cs =>
      simp only [Ty.take] at h
      obtain ⟨p, q, h1, h2, h3⟩ := hc
      split at h
      · split at h
        · rename_i e
          subst e
          simp only [Option.some.injEq, Prod.mk.injEq] at h
          obtain ⟨rfl, rfl⟩ := h
          exact ⟨p, q, h1, h2.length, by rw [show p = _ from h2]; rfl, fun _ => h2, h3, fun h => by simp only [List.all_cons, Bool.and_eq_true] at h; exact h.2⟩
        · cases h
      · cases h
  | .str, cs, rest, y, as, h, hc, hb => by
    cases cs with
    | nil => simp [Ty.take] at h
    | cons c cs =>
      simp only [Ty.take] at h
      obtain ⟨p, q, h1, h2, h3⟩ := hc
      split at h
      · simp only [Option.some.injEq, Prod.mk.injEq] at h
        obtain ⟨rfl, rfl⟩ := h
        exact ⟨p, q, h1, h2.length, by rw [show p = _ from h2]; rfl, fun _ => h2, h3, fun h => by simp only [List.all_cons, Bool.and_eq_true] at h; exact h.2⟩
      · cases h
  | .list e, cs, rest, y, as, h, hc, hb => by
    rcases hb with hb | hb
    · cases cs with
      | nil => simp [Ty.take] at h
      | cons c cs =>
        simp only [Ty.take] at h
        obtain ⟨p, q, h1, h2, h3⟩ := hc
        simp only [List.all_cons, Bool.and_eq_true] at hb
        split at h
        · split at h
          · rename_i e' l ds he
            subst he
            simp only [Option.some.injEq, Prod.mk.injEq] at h
            obtain ⟨rfl, rfl⟩ := h
            obtain ⟨a, rfl, h2⟩ := h2
            have hd : ds = [] := by simpa [TC.byv] using hb.1
            subst hd
            refine ⟨[a], q, h1, rfl, ?_, (fun h => by cases h), h3, fun _ => hb.2⟩
            simp only [Ty.shape, nzL, h2.byv]
            rfl
          · cases h
        · simp only [Option.some.injEq, Prod.mk.injEq] at h
          obtain ⟨rfl, rfl⟩ := h
          have : p = [.nil] := h2
          subst this
          exact ⟨[.nil], q, h1, rfl, rfl, (fun h => by cases h), h3, fun _ => hb.2⟩
        · cases h
    · cases hb
  | .st b, cs, rest, y, as, h, hc, hb => Ty.take_ok b cs rest y as h hc hb
  | .pair a b, cs, rest, y, as, h, hc, hb => by
    simp only [Ty.take] at h
    have hba : cs.all TC.byv = true ∨ a.flat = true := hb.imp id fun h => by simp only [Ty.flat, Bool.and_eq_true] at h; exact h.1
    have hbb : cs.all TC.byv = true ∨ b.flat = true := hb.imp id fun h => by simp only [Ty.flat, Bool.and_eq_true] at h; exact h.2
    cases h1 : a.take cs with
    | none => simp [h1] at h
    | some p1 =>
      obtain ⟨x, r⟩ := p1
      simp only [h1] at h
      cases h2 : b.take r with
      | none => simp [h2] at h
      | some p2 =>
        obtain ⟨z, q0⟩ := p2
        simp only [h2, Option.some.injEq, Prod.mk.injEq] at h
        obtain ⟨rfl, rfl⟩ := h
        obtain ⟨p, q, rfl, k2, k3, k4, k5, k6⟩ := Ty.take_ok a cs r x as h1 hc hba
        obtain ⟨p', q', rfl, g2, g3, g4, g5, g6⟩ := Ty.take_ok b r q0 z q h2 k5 (hbb.imp k6 id)
        refine ⟨p ++ p', q', by simp, by simp [k2, g2, Ty.width], ?_, fun hf => ?_, g5, fun h => g6 (k6 h)⟩
        · simp only [Ty.shape, Ty.cells]
          rw [nzL_append (by rw [a.len_shape, k2]), k3, g3]
        · simp only [Ty.flat, Bool.and_eq_true] at hf
          simp only [Ty.cells]
          rw [← k4 hf.1, ← g4 hf.2]
  | .arr n e, cs, rest, y, as, h, hc, hb => by
    have rep := repT_ok (σ := σ) (τ := τ) (m := m) (Ty.take_ok e)
    unfold Ty.take at h
    split at h
    · split at h
      · rename_i n' e' x r heq
        obtain ⟨rfl, rfl⟩ := heq
        simp only [Option.some.injEq, Prod.mk.injEq] at h
        obtain ⟨rfl, rfl⟩ := h
        obtain ⟨p, q, h1, h2, h3⟩ := hc
        have h2' : p = (Ty.arr n' e').cells x := h2
        refine ⟨p, q, h1, h2.length, ?_, fun _ => h2', h3, fun h => by simp only [List.all_cons, Bool.and_eq_true] at h; exact h.2⟩
        rw [h2']
        exact nz_cells _ _
      · cases h
    · exact rep n cs rest y as h hc hb
  where
  nz_cells : ∀ (t : Ty) (x : t.D), nzL t.shape (t.cells x) = t.cells x
    | .int _, _ => rfl
    | .bool, _ => rfl
    | .str, _ => rfl
    | .list _, _ => rfl
    | .st b, x => nz_cells b x
    | .pair a b, x => by
      simp only [Ty.shape, Ty.cells]
      rw [nzL_append (by rw [a.len_shape, a.len_cells]), nz_cells a, nz_cells b]
    | .arr n e, l => by
      obtain ⟨l, hl⟩ := l
      subst hl
      simp only [Ty.shape, Ty.cells]
      induction l with
      | nil => rfl
      | cons x r ih =>
        simp only [List.length_cons, List.replicate_succ, List.flatten_cons, List.map_cons]
        rw [nzL_append (by rw [e.len_shape, e.len_cells]), nz_cells e, ih]

theorem Ty.of_ok {t : Ty} {cs : List TC} {y : t.D} {as : List AV} (h : t.of cs = some y) (hc : RCs τ σ m cs as) (hb : cs.all TC.byv = true ∨ t.flat = true) :
    as.length = t.width ∧ nzL t.shape as = t.cells y ∧ (t.flat = true → as = t.cells y) := by
  unfold Ty.of at h
  split at h
  · rename_i x h1
    cases h
    obtain ⟨p, q, rfl, k2, k3, k4, k5, _⟩ := t.take_ok cs [] _ as h1 hc hb
    have : q = [] := k5
    subst this
    rw [List.append_nil]
    exact ⟨k2, k3, k4⟩
  · cases h

/-! ### By value -/
theorem oKeys_o {ds : List Slot} {s : Slot} (h : s ∈ ds) : Key.o s ∈ oKeys ds := List.mem_flatMap.2 ⟨s, h, by simp⟩
theorem oKeys_f {ds : List Slot} {s : Slot} (h : s ∈ ds) : Key.f s ∈ oKeys ds := List.mem_flatMap.2 ⟨s, h, by simp⟩
theorem oKeys_sub {a b : List Slot} (h : ∀ s ∈ a, s ∈ b) : ∀ k ∈ oKeys a, k ∈ oKeys b := by
  intro k hk
  obtain ⟨s, h1, h2⟩ := List.mem_flatMap.1 hk
  exact List.mem_flatMap.2 ⟨s, h s h1, h2⟩

theorem mapV_append (g : AV → R (AV × List Slot)) {K : List Key} : ∀ {a b : List AV} {x y : List AV} {r s : List Slot}, Does (mapV g a) σ (x, r) K → Does (mapV g b) σ (y, s) K → Does (mapV g (a ++ b)) σ (x ++ y, r ++ s) K
  | [], b, x, y, r, s, h, k => by
    have := h.1
    simp only [mapV, R.run_ret, Option.some.injEq, Prod.mk.injEq] at this
    obtain ⟨rfl, rfl⟩ := this
    exact k
  | a :: as, b, x, y, r, s, h, k => by
    have h1 := h.1
    have h2 := h.2
    simp only [mapV, R.run_bind] at h1
    cases ha : (g a).run σ with
    | none => simp [ha] at h1
    | some p =>
      cases hb : (mapV g as).run σ with
      | none => simp [ha, hb] at h1
      | some q =>
        simp only [ha, hb, Option.bind_some, R.run_ret, Option.some.injEq, Prod.mk.injEq] at h1
        obtain ⟨rfl, rfl⟩ := h1
        have f1 : ∀ z ∈ (g a).foot σ, z ∈ K := fun z hz => h2 z (by simp only [mapV]; rw [R.foot_bind]; exact List.mem_append_left _ hz)
        have f2 : ∀ z ∈ (mapV g as).foot σ, z ∈ K := fun z hz => h2 z (by simp only [mapV]; rw [R.foot_bind, ha]; refine List.mem_append_right _ ?_; simp only; rw [R.foot_bind]; exact List.mem_append_left _ hz)
        have := mapV_append g (K := K) (a := as) ⟨hb, f2⟩ k
        simp only [List.cons_append, mapV]
        exact Does.bind (a := p) ⟨ha, f1⟩ (Does.bind this ⟨by simp [R.run_ret], by simp [R.foot]⟩)

theorem valR_leaf {f : Nat} {K : List Key} {a : AV} (h : a.leaf = true ∨ a = .nil ∨ a = .emp) : Does (valR (f + 1) a) σ (a, []) K := by
  rcases h with h | rfl | rfl
  · cases a <;> first | (simp [AV.leaf] at h; done) | (simp only [valR]; exact Does.ret _)
  · simp only [valR]; exact Does.ret _
  · simp only [valR]; exact Does.ret _
theorem mapV_leaf {f : Nat} {K : List Key} : ∀ {as : List AV}, (∀ a ∈ as, a.leaf = true) → Does (mapV (valR (f + 1)) as) σ (as, []) K
  | [], _ => Does.ret _
  | a :: as, h => by
    simp only [mapV]
    exact Does.bind (valR_leaf (.inl (h a (by simp)))) (Does.bind (mapV_leaf (fun x hx => h x (by simp [hx]))) (Does.ret _))
theorem mapV_one {f : Nat} {K : List Key} {a b : AV} {r : List Slot} (h : Does (valR f a) σ (b, r) K) : Does (mapV (valR f) [a]) σ ([b], r) K := by
  simp only [mapV]
  exact Does.bind h (Does.bind (Does.ret ([], [])) (by simp; exact Does.ret _))

theorem sref_val {f : Nat} {K : List Key} {s st c lo len : Nat} {e : Nat} {xs : List AV} (ho : σ.getO s = ⟨st, some ⟨e, xs, false, c⟩⟩) (hl : lo + len ≤ xs.length) (hk : Key.o s ∈ K) :
    Does (valR (f + 1) (.sref s st lo len)) σ (.sl e ((xs.drop lo).take len), [s]) K := by
  simp only [valR]
  refine Does.bind (Does.theObj hk ho) ?_
  simp only [Bool.not_false, Bool.true_and, decide_eq_true hl, if_true]
  exact Does.ret _

/-- A cell by value. -/
theorem val_ok (h : Rel m τ σ) {f : Nat} {K : List Key} {c x : TC} {as : List AV} {rd : List Slot} (hc : RC τ σ m c as) (hv : c.val τ = some (x, rd)) (hx : x.byv = true) (hk : ∀ s ∈ rd, Key.o s ∈ K) :
    ∃ bs r, Does (mapV (valR (f + 1)) as) σ (bs, r) K ∧ RC τ σ m x bs ∧ ∀ s ∈ r, s ∈ rd := by
  cases c with
  | any => cases hv
  | v t y =>
    simp only [TC.val, Option.some.injEq, Prod.mk.injEq] at hv
    obtain ⟨rfl, rfl⟩ := hv
    have : as = t.cells y := hc
    subst this
    exact ⟨_, [], mapV_leaf (t.cells_leaf y), rfl, by simp⟩
  | bc b =>
    simp only [TC.val, Option.some.injEq, Prod.mk.injEq] at hv
    obtain ⟨rfl, rfl⟩ := hv
    have : as = [.bool b] := hc
    subst this
    exact ⟨_, [], mapV_one (valR_leaf (.inl rfl)), rfl, by simp⟩
  | nil =>
    simp only [TC.val, Option.some.injEq, Prod.mk.injEq] at hv
    obtain ⟨rfl, rfl⟩ := hv
    have : as = [.nil] := hc
    subst this
    exact ⟨_, [], mapV_one (valR_leaf (.inr (.inl rfl))), rfl, by simp⟩
  | lst e l ds =>
    simp only [TC.val, Option.some.injEq, Prod.mk.injEq] at hv
    obtain ⟨rfl, rfl⟩ := hv
    obtain ⟨a, rfl, hc⟩ := hc
    rcases hc with rfl | ⟨rfl, rfl⟩ | ⟨s, hs, st, c, lo, len, xs, h1, h2, h3, h4, rfl⟩
    · exact ⟨_, [], mapV_one (valR_leaf (.inl rfl)), ⟨_, rfl, .inl rfl⟩, by simp⟩
    · exact ⟨_, [], mapV_one (valR_leaf (.inr (.inl rfl))), ⟨_, rfl, .inr (.inl ⟨rfl, rfl⟩)⟩, by simp⟩
    · exact ⟨_, [s], mapV_one (sref_val h1 h3 (hk s hs)), ⟨_, rfl, .inl (by rw [h4])⟩, by simpa using hs⟩
  | own d w mn =>
    simp only [TC.val] at hv
    obtain ⟨a, rfl, e, l, cap, fz, s1, h1, hc⟩ := hc
    have hat := h.at_ d (by rw [h1]; simp)
    rw [h1] at hv
    rcases hc with ⟨⟨⟨st, c, g1, g2, g3⟩, g4⟩, hw⟩ | ⟨rfl, rfl, rfl, hw⟩
    · cases w with
      | none =>
        simp only [Option.some.injEq, Prod.mk.injEq] at hv
        obtain ⟨rfl, rfl⟩ := hv
        simp only at hw
        subst hw
        rw [g1]
        refine ⟨_, [m d], mapV_one (sref_val g1 (by simp) (hk _ hat)), ⟨_, rfl, .inl ?_⟩, by simpa using hat⟩
        rw [List.drop_zero, List.take_of_length_le (by simp)]
      | some p =>
        obtain ⟨lo, n⟩ := p
        simp only [Option.some.injEq, Prod.mk.injEq] at hv
        obtain ⟨rfl, rfl⟩ := hv
        obtain ⟨hw1, hw2⟩ := hw
        subst hw2
        rw [g1]
        refine ⟨_, [m d], mapV_one (sref_val g1 (by simpa using hw1) (hk _ hat)), ⟨_, rfl, .inl ?_⟩, by simpa using hat⟩
        rw [List.map_take, List.map_drop]
    · refine ⟨_, [], mapV_one (valR_leaf (.inr (.inl rfl))), ?_, by simp⟩
      cases w with
      | none =>
        simp only [Option.some.injEq, Prod.mk.injEq] at hv
        obtain ⟨rfl, rfl⟩ := hv
        exact ⟨_, rfl, .inr (.inl ⟨rfl, rfl⟩)⟩
      | some p =>
        simp only [Option.some.injEq, Prod.mk.injEq] at hv
        obtain ⟨rfl, rfl⟩ := hv
        exact ⟨_, rfl, .inr (.inl ⟨by simp, rfl⟩)⟩
  | rp t y off ds =>
    simp only [TC.val, Option.some.injEq, Prod.mk.injEq] at hv
    obtain ⟨rfl, rfl⟩ := hv
    cases hx
  | spare d => cases hv
  | vref d off => cases hv
  | eref d i off => cases hv
  | aref => cases hv

theorem vals_ok (h : Rel m τ σ) {f : Nat} {K : List Key} : ∀ {cs xs : List TC} {as : List AV} {rd : List Slot}, RCs τ σ m cs as → valsC τ cs = some (xs, rd) → xs.all TC.byv = true → (∀ s ∈ rd, Key.o s ∈ K) →
    ∃ bs r, Does (mapV (valR (f + 1)) as) σ (bs, r) K ∧ RCs τ σ m xs bs ∧ (∀ s ∈ r, s ∈ rd) ∧ bs.length = as.length
  | [], xs, as, rd, hc, hv, _, _ => by
    simp only [valsC, Option.some.injEq, Prod.mk.injEq] at hv
    obtain ⟨rfl, rfl⟩ := hv
    have : as = [] := hc
    subst this
    exact ⟨[], [], Does.ret _, rfl, by simp, rfl⟩
  | c :: cs, xs, as, rd, ⟨p, q, h1, h2, h3⟩, hv, hx, hk => by
    subst h1
    simp only [valsC] at hv
    cases hv1 : c.val τ with
    | none => simp [hv1] at hv
    | some u =>
      cases hv2 : valsC τ cs with
      | none => simp [hv1, hv2] at hv
      | some w =>
        obtain ⟨x, r1⟩ := u
        obtain ⟨ys, r2⟩ := w
        simp only [hv1, hv2, Option.some.injEq, Prod.mk.injEq] at hv
        obtain ⟨rfl, rfl⟩ := hv
        simp only [List.all_cons, Bool.and_eq_true] at hx
        obtain ⟨b1, s1, k1, k2, k3⟩ := val_ok h (f := f) h2 hv1 hx.1 (fun s hs => hk s (by simp [hs]))
        obtain ⟨b2, s2, g1, g2, g3, g4⟩ := vals_ok h (f := f) h3 hv2 hx.2 (fun s hs => hk s (by simp [hs]))
        refine ⟨b1 ++ b2, s1 ++ s2, mapV_append _ k1 g1, ⟨b1, b2, rfl, k2, g2⟩, fun s hs => ?_, ?_⟩
        · rcases List.mem_append.1 hs with hs | hs
          · exact List.mem_append_left _ (k3 s hs)
          · exact List.mem_append_right _ (g3 s hs)
        · have l1 := k2.length
          have l2 := h2.length
          have : x.width = c.width := by
            cases c with
            | v t y => simp only [TC.val, Option.some.injEq, Prod.mk.injEq] at hv1; obtain ⟨rfl, _⟩ := hv1; rfl
            | own d w mn =>
              simp only [TC.val] at hv1
              split at hv1
              · cases w <;> (simp only [Option.some.injEq, Prod.mk.injEq] at hv1; obtain ⟨rfl, _⟩ := hv1; rfl)
              · cases hv1
            | _ => first | (simp only [TC.val, Option.some.injEq, Prod.mk.injEq] at hv1; obtain ⟨rfl, _⟩ := hv1; rfl) | cases hv1
          simp [l1, l2, this, g4]
end
end Go.Vm
/- New objects, changed objects, frozen objects. -/
namespace Go.Vm

section
variable {τ τ' : TState} {σ σ' : State} {m m' : Nat → Slot}

/-- Nothing is known of these slots. -/
def Clear (m : Nat → Slot) (τ : TState) (X : List Slot) : Prop := (∀ d, τ.getO d ≠ none → m d ∉ X) ∧ ∀ c, τ.Has c → ∀ s ∈ c.rslots, s ∉ X

theorem Clear.drop {X : List Slot} (h : Clear m τ X) (ns ss : List Nat) : Clear m (τ.drop ns ss) X := by
  refine ⟨fun d hd => h.1 d fun e => ?_, fun c hc s hs => ?_⟩
  · rw [TState.getO_drop, e] at hd; simp at hd
  · obtain ⟨⟨c0, h0, rfl⟩, _, _⟩ := TState.has_drop hc
    exact h.2 c0 h0 s (TC.dropped_names.2 s hs).2
theorem Clear.append {X Y : List Slot} (h : Clear m τ X) (k : Clear m τ Y) : Clear m τ (X ++ Y) :=
  ⟨fun d hd => by simp only [List.mem_append, not_or]; exact ⟨h.1 d hd, k.1 d hd⟩, fun c hc s hs => by simp only [List.mem_append, not_or]; exact ⟨h.2 c hc s hs, k.2 c hc s hs⟩⟩
theorem Clear.sub {X Y : List Slot} (h : Clear m τ X) (k : ∀ s ∈ Y, s ∈ X) : Clear m τ Y := ⟨fun d hd e => h.1 d hd (k _ e), fun c hc s hs e => h.2 c hc s hs (k _ e)⟩

theorem Rel.clear_drop (h : Rel m τ σ) {ns : List Nat} {ss X : List Slot} (hn : ∀ d ∈ τ.namesAt X, d ∈ ns) (hs : ∀ s ∈ X, s ∈ ss) : Clear m (τ.drop ns ss) X := by
  refine ⟨fun d hd e => ?_, fun c hc s hc' e => ?_⟩
  · have hd0 : τ.getO d ≠ none := by
      intro e; rw [TState.getO_drop, e] at hd; simp at hd
    have := hn d (TState.mem_namesAt hd0 ⟨m d, h.at_ d hd0, e⟩)
    rw [TState.getO_drop] at hd
    simp [this] at hd
  · exact (TState.has_drop hc).2.2 s hc' (hs s e)

theorem Rel.clear_kill (h : Rel m τ σ) {d : Nat} (hd : τ.getO d ≠ none) : Clear m (τ.kill d) [m d] := by
  refine ⟨fun d' hd' e => ?_, fun c hc s hc' e => ?_⟩
  · unfold TState.kill at hd'
    rw [TState.getO_drop] at hd'
    by_cases he : d' = d
    · subst he; simp at hd'
    · have h0 : τ.getO d' ≠ none := by
        intro e; rw [e] at hd'; simp at hd'
      exact h.inj d' d he h0 hd (by simpa using e)
  · simp only [List.mem_singleton] at e
    subst e
    exact (TState.has_drop hc).2.2 _ hc' (h.at_ d hd)
theorem TState.kill_names {d : Nat} {c : TC} (hc : (τ.kill d).Has c) : d ∉ c.names := fun e => (TState.has_drop hc).2.1 d e (by simp)
theorem TState.kill_getO {d : Nat} : (τ.kill d).getO d = none := by unfold TState.kill; rw [TState.getO_drop]; simp

theorem TState.has_put {d : Nat} {ss : List Slot} {o : TO} {c : TC} (hc : (τ.putO d ss o).Has c) : τ.Has c ∨ c ∈ o.all := by
  rcases hc with ⟨n, h⟩ | ⟨d', o', h1, h2⟩
  · exact .inl (.inl ⟨n, h⟩)
  · rw [TState.getO_put] at h1
    split at h1
    · cases h1; exact .inr h2
    · exact .inl (.inr ⟨d', o', h1, h2⟩)

/-- The state agrees but at these slots. -/
def Agree (X : List Slot) (σ σ' : State) : Prop := (∀ n, σ'.getT n = σ.getT n) ∧ σ'.tm.length = σ.tm.length ∧ ∀ s, s ∉ X → σ'.getO s = σ.getO s ∧ σ'.getF s = σ.getF s
theorem Agree.refl (X : List Slot) (σ : State) : Agree X σ σ := ⟨fun _ => rfl, rfl, fun _ _ => ⟨rfl, rfl⟩⟩
theorem Agree.trans {X : List Slot} {σ'' : State} (h : Agree X σ σ') (k : Agree X σ' σ'') : Agree X σ σ'' :=
  ⟨fun n => (k.1 n).trans (h.1 n), k.2.1.trans h.2.1, fun s hs => ⟨((k.2.2 s hs).1).trans (h.2.2 s hs).1, ((k.2.2 s hs).2).trans (h.2.2 s hs).2⟩⟩
theorem Agree.mono {X Y : List Slot} (h : Agree X σ σ') (k : ∀ s ∈ X, s ∈ Y) : Agree Y σ σ' := ⟨h.1, h.2.1, fun s hs => h.2.2 s fun e => hs (k s e)⟩

def W.slots : W → List Slot
  | .o d _ | .f d _ => [d]
  | .t _ _ => []
def W.noT : W → Bool
  | .t _ _ => false
  | _ => true
theorem agree_w {w : W} (h : w.noT = true) : Agree w.slots σ (w.apply σ) := by
  cases w with
  | t n v => cases h
  | o d s => exact ⟨fun n => rfl, rfl, fun s' hs => ⟨by rw [getO_o, if_neg (by simpa [W.slots] using hs)], rfl⟩⟩
  | f d b => exact ⟨fun n => rfl, rfl, fun s' hs => ⟨rfl, by rw [getF_f, if_neg (by simpa [W.slots] using hs)]⟩⟩
theorem agree_ws : ∀ {ws : List W} {σ : State}, ws.all W.noT = true → Agree (ws.flatMap W.slots) σ (σ.applyAll ws)
  | [], σ, _ => Agree.refl _ σ
  | w :: ws, σ, h => by
    simp only [List.all_cons, Bool.and_eq_true] at h
    rw [applyAll_cons]
    refine Agree.trans ((agree_w h.1).mono fun s hs => ?_) ((agree_ws h.2).mono fun s hs => ?_)
    · simp only [List.flatMap_cons, List.mem_append]; exact .inl hs
    · simp only [List.flatMap_cons, List.mem_append]; exact .inr hs

/-- A new object where nothing is known. -/
theorem Rel.new (h : Rel m τ σ) {X : List Slot} {s : Slot} {o : TO} (hc : Clear m τ X) (hs : s ∈ X) (hn : τ.getO s = none) (hnn : ∀ c, τ.Has c → s ∉ c.names) (ha : Agree X σ σ')
    (ho : RO (τ.putO s [s] o) σ' (upd m s s) s o) : Rel (upd m s s) (τ.putO s [s] o) σ' := by
  refine h.put (by simp) ha.1 ha.2.1 (fun d' _ hd' => ha.2.2 _ (hc.1 d' hd')) (fun d' _ hd' e => hc.1 d' hd' (e ▸ hs)) (fun c hc' s' hs' => (ha.2.2 s' (hc.2 c hc' s' hs')).1) (.inl hnn) ho

/-- Cells seen from a state in which what they mention is as before. -/
theorem RCs.goes {cs : List TC} {as : List AV} {ns ss : List Nat} (h : RCs τ σ m cs as) (hn : ∀ d, d ∉ ns → (∃ c ∈ cs, d ∈ c.names) → Stays τ τ' σ σ' m m' d) (hs : ∀ s, s ∉ ss → (∃ c ∈ cs, s ∈ c.rslots) → σ'.getO s = σ.getO s) :
    RCs τ' σ' m' (cs.map (TC.drop ns ss)) as := by
  refine (h.dropped ns ss).frame (fun c hc d hd => ?_) (fun c hc s hs' => ?_)
  · obtain ⟨c0, h0, rfl⟩ := List.mem_map.1 hc
    obtain ⟨k1, k2⟩ := TC.dropped_names.1 d hd
    exact hn d k1 ⟨c0, h0, k2⟩
  · obtain ⟨c0, h0, rfl⟩ := List.mem_map.1 hc
    obtain ⟨k1, k2⟩ := TC.dropped_names.2 s hs'
    exact hs s k1 ⟨c0, h0, k2⟩

/-- A name that is mentioned is that of an object. -/
theorem RC.there {c : TC} {as : List AV} (hc : RC τ σ m c as) : ∀ d ∈ c.names, τ.getO d ≠ none := by
  intro d' hd'
  cases c with
  | own d0 w mn => obtain ⟨_, _, _, _, _, _, _, h1, _⟩ := hc; simp [TC.names] at hd'; subst hd'; rw [h1]; simp
  | spare d0 => obtain ⟨_, _, _, _, _, _, _, h1, _⟩ := hc; simp [TC.names] at hd'; subst hd'; rw [h1]; simp
  | vref d0 off => obtain ⟨⟨_, _, _, _, h1⟩, _⟩ := hc; simp [TC.names] at hd'; subst hd'; rw [h1]; simp
  | eref d0 i off => obtain ⟨_, _, _, _, _, h1, _⟩ := hc; simp [TC.names] at hd'; subst hd'; rw [h1]; simp
  | aref d0 off n e j off2 => obtain ⟨⟨_, _, _, _, h1⟩, _⟩ := hc; simp [TC.names] at hd'; subst hd'; rw [h1]; simp
  | _ => simp [TC.names] at hd'
theorem RCs.there : ∀ {cs : List TC} {as : List AV}, RCs τ σ m cs as → ∀ c ∈ cs, ∀ d ∈ c.names, τ.getO d ≠ none
  | [], _, _, _, hc => by cases hc
  | c0 :: cs, as, ⟨p, q, h1, h2, h3⟩, c, hc => by
    simp only [List.mem_cons] at hc
    rcases hc with rfl | hc
    · exact h2.there
    · exact RCs.there h3 c hc

/-- What is neither forgotten nor touched stays. -/
theorem Stays.of {ns ss X : List Nat} {s : Slot} {o : TO} {d : Nat} {ss' : List Slot} (h : Rel m τ σ) (hd : d ∉ ns) (hd0 : τ.getO d ≠ none) (hds : d ≠ s) (hx : m d ∉ X) (ha : Agree X σ σ') :
    Stays τ ((τ.drop ns ss).putO s ss' o) σ σ' m (upd m s s) d := by
  obtain ⟨k1, k2⟩ := ha.2.2 _ hx
  refine ⟨upd_ne hds, by rw [k1], fun e l cap fz s1 hl => ⟨l, cap, fz, s1, ?_, rfl, fun hs => ⟨by rw [k1]; exact hs.1, fun hz => by rw [k2]; exact hs.2 hz⟩⟩, fun g cs fz s1 hg => ⟨g, cs.map (TC.drop ns ss), fz, s1, ?_⟩⟩
  · rw [TState.getO_put, if_neg hds, TState.getO_drop, hl]; simp [hd, TO.mapC]
  · rw [TState.getO_put, if_neg hds, TState.getO_drop, hg]; simp [hd, TO.mapC]

/-- mkO: a list. -/
theorem Rel.mkSl (h : Rel m τ σ) {X : List Slot} {s : Slot} {e : Ty} {l : List e.D} {cap : Option Nat} {fz : Bool} (hX : ∀ x ∈ X, x = s ∨ Clear m τ [x]) (ha : Agree (s :: X) σ σ') (ho : SlR σ' s e l cap fz ∨ l = []) :
    Rel (upd m s s) (τ.mkO s (.sl e l cap fz false)) σ' := by
  unfold TState.mkO
  have hc : Clear m (τ.drop (s :: τ.namesAt [s]) [s]) (s :: X) := by
    have h1 : Clear m (τ.drop (s :: τ.namesAt [s]) [s]) [s] := h.clear_drop (fun d hd => List.mem_cons_of_mem _ hd) (fun _ h => h)
    refine ⟨fun d hd e => ?_, fun c hc s' hs' e => ?_⟩
    · simp only [List.mem_cons] at e
      rcases e with e | e
      · exact h1.1 d hd (by simp [e])
      · rcases hX _ e with e | hx
        · exact h1.1 d hd (by simp [e])
        · exact (hx.drop _ _).1 d hd (by simp)
    · simp only [List.mem_cons] at e
      rcases e with e | e
      · exact h1.2 c hc s' hs' (by simp [e])
      · rcases hX _ e with e | hx
        · exact h1.2 c hc s' hs' (by simp [e])
        · exact (hx.drop _ _).2 c hc s' hs' (by simp)
  refine (h.drop _ _).new hc (by simp) (by rw [TState.getO_drop]; simp) (fun c hc' e => (TState.has_drop hc').2.1 s e (by simp)) ha ⟨ho.imp id fun h => ⟨h, rfl⟩, fun e => by cases e⟩

/-- mkO: a variable. -/
theorem Rel.mkVar (h : Rel m τ σ) {s : Slot} {g : Bool} {cs : List TC} {x : AV} {st e c : Nat} (ha : Agree [s] σ σ') (hx : RX τ σ m g cs x) (hp : g = false → x.plain = true)
    (ho : σ'.getO s = ⟨st, some ⟨e, [x], true, c⟩⟩) (hf : σ'.getF s = false) :
    Rel (upd m s s) (τ.mkO s (.var g cs false false)) σ' := by
  unfold TState.mkO
  have hc : Clear m (τ.drop (s :: τ.namesAt [s]) [s]) [s] := h.clear_drop (fun d hd => List.mem_cons_of_mem _ hd) (fun _ h => h)
  refine (h.drop _ _).new hc (by simp) (by rw [TState.getO_drop]; simp) (fun c hc' e => (TState.has_drop hc').2.1 s e (by simp)) ha ?_
  refine ⟨⟨st, e, c, x, ho, ?_, hp⟩, fun _ => hf, fun e => by cases e⟩
  have go : ∀ as, RCs τ σ m cs as → RCs ((τ.drop (s :: τ.namesAt [s]) [s]).putO s [s] ((TO.var g cs false false).mapC (TC.drop (s :: τ.namesAt [s]) [s]))) σ' (upd m s s) (cs.map (TC.drop (s :: τ.namesAt [s]) [s])) as := by
    intro as hcs
    refine hcs.goes (fun d hd ⟨c, hc1, hc2⟩ => ?_) (fun s' hs' _ => (ha.2.2 s' hs').1)
    have hd0 := hcs.there c hc1 d hc2
    simp only [List.mem_cons, not_or] at hd
    refine Stays.of h (by simp only [List.mem_cons, not_or]; exact hd) hd0 hd.1 (fun e => hd.2 (TState.mem_namesAt hd0 ⟨m d, h.at_ d hd0, e⟩)) ha
  unfold RX at hx ⊢
  cases g with
  | true => obtain ⟨as, h1, h2⟩ := hx; exact ⟨as, h1, go as h2⟩
  | false => obtain ⟨⟨y, rfl⟩, h2⟩ := hx; exact ⟨⟨_, rfl⟩, go [x] h2⟩

/-! ### Changed -/
theorem TState.soil_getO {d d' : Nat} : (τ.soil d).getO d' = (τ.getO d').map (TO.mapC (TC.drop [] (τ.at_ d))) := by
  unfold TState.soil; rw [TState.getO_drop]; simp

/-- A list whose elements are changed. -/
theorem Rel.updSl (h : Rel m τ σ) {d : Nat} {e : Ty} {l l' : List e.D} {cap : Option Nat} {s1 : Bool} (hd : τ.getO d = some (.sl e l cap false s1)) (hl : l'.length = l.length)
    (ha : Agree [m d] σ σ') (hst : (σ'.getO (m d)).st = (σ.getO (m d)).st) (ho : SlR σ (m d) e l cap false → SlR σ' (m d) e l' cap false) (hr : l = [] → σ'.getO (m d) = σ.getO (m d)) :
    Rel m (τ.upd d (.sl e l' cap false s1)) σ' := by
  have h0 : τ.getO d ≠ none := by rw [hd]; simp
  have key := (h.drop [] (τ.at_ d)).put (d := d) (s := m d) (ss := τ.at_ d) (σ' := σ') (o := .sl e l' cap false s1) (h.at_ d h0) ha.1 ha.2.1
    (fun d' hd' hd0 => ha.2.2 _ (by
      have : τ.getO d' ≠ none := by intro e; rw [TState.getO_drop, e] at hd0; simp at hd0
      simp only [List.mem_singleton]; exact h.inj d' d hd' this h0))
    (fun d' hd' hd0 => by
      have : τ.getO d' ≠ none := by intro e; rw [TState.getO_drop, e] at hd0; simp at hd0
      exact h.inj d' d hd' this h0)
    (fun c hc s' hs' => (ha.2.2 s' (by
      simp only [List.mem_singleton]; intro e; subst e
      exact (TState.has_drop hc).2.2 _ hs' (h.at_ d h0))).1)
    (.inr ?_) ?_
  · rw [upd_self] at key; exact key
  · rw [upd_self]
    refine ⟨rfl, hst, fun e0 l0 cap0 fz0 s0 hg => ?_, fun g cs fz s0 hg => ?_⟩
    · rw [TState.getO_drop, hd] at hg
      simp [TO.mapC] at hg
      obtain ⟨rfl, h2, rfl, rfl, rfl⟩ := hg
      cases h2
      exact ⟨l', _, _, _, by rw [TState.getO_put, if_pos rfl], hl, ho⟩
    · rw [TState.getO_drop, hd] at hg; simp [TO.mapC] at hg
  · rw [upd_self]
    have := h.ob d _ hd
    refine ⟨?_, fun hs => by rw [hst]; exact this.2 hs⟩
    rcases this.1 with h1 | ⟨h1, h2⟩
    · exact .inl (ho h1)
    · exact .inr ⟨List.length_eq_zero_iff.1 (by rw [hl, h1]; rfl), h2⟩

/-- A variable whose content is changed. -/
theorem Rel.updVar (h : Rel m τ σ) {d : Nat} {g : Bool} {old cs : List TC} {s1 : Bool} (hd : τ.getO d = some (.var g old false s1)) (ha : Agree [m d] σ σ')
    {x : AV} {st e c : Nat} (hst : (σ.getO (m d)).st = st) (hx : RX τ σ m g cs x) (hp : g = false → x.plain = true)
    (ho : σ'.getO (m d) = ⟨st, some ⟨e, [x], true, c⟩⟩) (hf : σ'.getF (m d) = false) : Rel m (τ.upd d (.var g cs false s1)) σ' := by
  have h0 : τ.getO d ≠ none := by rw [hd]; simp
  have st' : ∀ d', τ.getO d' ≠ none → Stays τ ((τ.drop [] (τ.at_ d)).putO d (τ.at_ d) ((TO.var g cs false s1).mapC (TC.drop [] (τ.at_ d)))) σ σ' m m d' := by
    intro d' hd0
    by_cases he : d' = d
    · subst he
      refine ⟨rfl, by rw [ho, hst], (fun e0 l0 cap0 fz0 s0 hg => by rw [hd] at hg; cases hg), fun g0 cs0 fz0 s0 hg => ⟨g, cs.map (TC.drop [] (τ.at_ d')), false, s1, by rw [TState.getO_put, if_pos rfl]; rfl⟩⟩
    · have hx : m d' ∉ [m d] := by simp only [List.mem_singleton]; exact h.inj d' d he hd0 h0
      obtain ⟨k1, k2⟩ := ha.2.2 _ hx
      refine ⟨rfl, by rw [k1], fun e l cap fz s1 hl => ⟨l, cap, fz, s1, ?_, rfl, fun hs => ⟨by rw [k1]; exact hs.1, fun hz => by rw [k2]; exact hs.2 hz⟩⟩, fun g cs fz s1 hg => ⟨g, cs.map (TC.drop [] (τ.at_ d)), fz, s1, ?_⟩⟩
      · rw [TState.getO_put, if_neg he, TState.getO_drop, hl]; simp [TO.mapC]
      · rw [TState.getO_put, if_neg he, TState.getO_drop, hg]; simp [TO.mapC]
  have key := (h.drop [] (τ.at_ d)).put (d := d) (s := m d) (ss := τ.at_ d) (σ' := σ') (o := (TO.var g cs false s1).mapC (TC.drop [] (τ.at_ d))) (h.at_ d h0) ha.1 ha.2.1
    (fun d' hd' hd0 => ha.2.2 _ (by
      have : τ.getO d' ≠ none := by intro e; rw [TState.getO_drop, e] at hd0; simp at hd0
      simp only [List.mem_singleton]; exact h.inj d' d hd' this h0))
    (fun d' hd' hd0 => by
      have : τ.getO d' ≠ none := by intro e; rw [TState.getO_drop, e] at hd0; simp at hd0
      exact h.inj d' d hd' this h0)
    (fun c hc s' hs' => (ha.2.2 s' (by
      simp only [List.mem_singleton]; intro e; subst e
      exact (TState.has_drop hc).2.2 _ hs' (h.at_ d h0))).1)
    (.inr ?_) ?_
  · rw [upd_self] at key; exact key
  · rw [upd_self]
    refine ⟨rfl, by rw [ho, hst], fun e0 l0 cap0 fz0 s0 hg => ?_, fun g0 cs0 fz0 s0 hg => ?_⟩
    · rw [TState.getO_drop, hd] at hg; simp [TO.mapC] at hg
    · exact ⟨g, cs.map (TC.drop [] (τ.at_ d)), false, s1, by rw [TState.getO_put, if_pos rfl]; rfl⟩
  · rw [upd_self]
    have := h.ob d _ hd
    refine ⟨⟨st, e, c, x, ho, ?_, hp⟩, fun _ => hf, fun hs => by rw [ho, ← hst]; exact this.2.2 hs⟩
    have go : ∀ as, RCs τ σ m cs as → RCs ((τ.drop [] (τ.at_ d)).putO d (τ.at_ d) ((TO.var g cs false s1).mapC (TC.drop [] (τ.at_ d)))) σ' m (cs.map (TC.drop [] (τ.at_ d))) as := by
      intro as hcs
      refine hcs.goes (fun d' _ ⟨c, hc1, hc2⟩ => st' d' (hcs.there c hc1 d' hc2)) (fun s' hs' _ => (ha.2.2 s' (by simp only [List.mem_singleton]; intro e; subst e; exact hs' (h.at_ d h0))).1)
    unfold RX at hx ⊢
    cases g with
    | true => obtain ⟨as, h1, h2⟩ := hx; exact ⟨as, h1, go as h2⟩
    | false => obtain ⟨⟨y, rfl⟩, h2⟩ := hx; exact ⟨⟨_, rfl⟩, go [x] h2⟩

/-! ### Frozen -/
theorem TState.find_freeze (ss : List Slot) (d : Nat) : lookT d (τ.freeze ss).ob = (lookT d τ.ob).map fun p => if meets p.1 ss then (p.1, p.2.freeze) else p := by
  unfold TState.freeze
  have := lookT_map (fun (p : List Slot × TO) => if meets p.1 ss then (p.1, p.2.freeze) else p) d τ.ob
  rw [← this]
  congr 1
  apply List.map_congr_left
  intro p _
  obtain ⟨a, b, c⟩ := p
  simp only
  split <;> rfl
theorem TState.getO_freeze (ss : List Slot) (d : Nat) : (τ.freeze ss).getO d = if meets (τ.at_ d) ss then (τ.getO d).map TO.freeze else τ.getO d := by
  unfold TState.getO TState.at_
  rw [TState.find_freeze]
  cases lookT d τ.ob with
  | none => simp
  | some p =>
    simp only [Option.map_some, Option.getD_some]
    split <;> rfl
theorem TState.at_freeze (ss : List Slot) (d : Nat) : (τ.freeze ss).at_ d = τ.at_ d := by
  unfold TState.at_
  rw [TState.find_freeze]
  cases lookT d τ.ob with
  | none => rfl
  | some p =>
    simp only [Option.map_some, Option.getD_some]
    split <;> rfl
theorem TState.none_freeze {ss : List Slot} {d : Nat} : (τ.freeze ss).getO d ≠ none ↔ τ.getO d ≠ none := by
  rw [TState.getO_freeze]
  split
  · cases τ.getO d <;> simp
  · exact Iff.rfl
theorem TState.has_freeze {ss : List Slot} {c : TC} (hc : (τ.freeze ss).Has c) : τ.Has c := by
  rcases hc with ⟨n, h⟩ | ⟨d, o, h1, h2⟩
  · exact .inl ⟨n, h⟩
  · rw [TState.getO_freeze] at h1
    split at h1
    · simp only [Option.map_eq_some_iff] at h1
      obtain ⟨o0, h3, rfl⟩ := h1
      exact .inr ⟨d, o0, h3, by cases o0 <;> exact h2⟩
    · exact .inr ⟨d, o, h1, h2⟩
theorem Stays.freeze {ss : List Slot} {d : Nat} : Stays τ (τ.freeze ss) σ σ m m d := by
  refine ⟨rfl, rfl, fun e l cap fz s1 hl => ?_, fun g cs fz s1 hg => ?_⟩
  · rw [TState.getO_freeze, hl]
    split
    · exact ⟨l, cap, true, s1, rfl, rfl, fun hs => ⟨hs.1, fun h => by cases h⟩⟩
    · exact ⟨l, cap, fz, s1, rfl, rfl, id⟩
  · rw [TState.getO_freeze, hg]
    split
    · exact ⟨g, cs, true, s1, rfl⟩
    · exact ⟨g, cs, fz, s1, rfl⟩
theorem Rel.freeze (h : Rel m τ σ) (ss : List Slot) : Rel m (τ.freeze ss) σ where
  len := h.len
  tm n := (h.tm n).frame (fun _ _ _ _ => Stays.freeze) (fun _ _ _ _ => rfl)
  inj d d' hd h1 h2 := h.inj d d' hd (TState.none_freeze.1 h1) (TState.none_freeze.1 h2)
  at_ d hd := by rw [TState.at_freeze]; exact h.at_ d (TState.none_freeze.1 hd)
  ob d o ho := by
    have key : ∀ o0, τ.getO d = some o0 → o = o0 ∨ o = o0.freeze → RO (τ.freeze ss) σ m (m d) o := by
      intro o0 h0 he
      have := h.ob d o0 h0
      cases o0 with
      | sl e l cap fz s1 =>
        rcases he with rfl | rfl
        · exact this
        · exact ⟨this.1.imp (fun h1 => ⟨h1.1, fun h => by cases h⟩) id, this.2⟩
      | gone => rcases he with rfl | rfl <;> exact this
      | var g cs fz s1 =>
        obtain ⟨⟨st, e, c, x, k1, k2, k3⟩, k4, k5⟩ := this
        have k2' : RX (τ.freeze ss) σ m g cs x := k2.frame (fun _ _ _ _ => Stays.freeze) (fun _ _ _ _ => rfl)
        rcases he with rfl | rfl
        · exact ⟨⟨st, e, c, x, k1, k2', k3⟩, k4, k5⟩
        · exact ⟨⟨st, e, c, x, k1, k2', k3⟩, (fun h => by cases h), k5⟩
    rw [TState.getO_freeze] at ho
    split at ho
    · simp only [Option.map_eq_some_iff] at ho
      obtain ⟨o0, h1, rfl⟩ := ho
      exact key o0 h1 (.inr rfl)
    · exact key o ho (.inl rfl)

theorem frzL_O (r : List Slot) : ∀ (σ : State) (d : Slot), (σ.applyAll (setFs r)).getO d = σ.getO d := by
  unfold setFs
  induction r with
  | nil => intro σ d; rfl
  | cons s r ih => intro σ d; rw [List.map_cons, applyAll_cons, ih]; rfl
theorem frzL_F (r : List Slot) : ∀ (σ : State) (d : Slot), d ∉ r → (σ.applyAll (setFs r)).getF d = σ.getF d := by
  unfold setFs
  induction r with
  | nil => intro σ d _; rfl
  | cons s r ih =>
    intro σ d hd
    simp only [List.mem_cons, not_or] at hd
    rw [List.map_cons, applyAll_cons, ih _ _ hd.2, getF_f, if_neg hd.1]
theorem frzL_T (r : List Slot) : ∀ (σ : State) (n : Nat), (σ.applyAll (setFs r)).getT n = σ.getT n := by
  unfold setFs
  induction r with
  | nil => intro σ d; rfl
  | cons s r ih => intro σ d; rw [List.map_cons, applyAll_cons, ih]; rfl

/-- What was read is frozen. -/
theorem Rel.setFs (h : Rel m τ σ) {r ss : List Slot} (hr : ∀ s ∈ r, s ∈ ss) : Rel m (τ.freeze ss) (σ.applyAll (setFs r)) := by
  refine (h.freeze ss).off (frzL_T r σ) (len_applyAll _ _) (fun d _ => frzL_O r σ _) (fun d o ho hz => ?_) (fun _ _ s _ => frzL_O r σ s)
  apply frzL_F
  intro hm
  rw [TState.getO_freeze] at ho
  have hd : τ.getO d ≠ none := by
    intro e; rw [e] at ho; simp at ho
  have : meets (τ.at_ d) ss = true := meets_iff.2 ⟨m d, h.at_ d hd, hr _ hm⟩
  rw [this] at ho
  simp only [if_true, Option.map_eq_some_iff] at ho
  obtain ⟨o0, _, rfl⟩ := ho
  cases o0 <;> cases hz
theorem frzL_noT (r : List Slot) : (setFs r).all W.noT = true := by
  unfold Vm.setFs
  induction r with
  | nil => rfl
  | cons s r ih => simp only [List.map_cons, List.all_cons, ih, Bool.and_true]; rfl

/-- A value for a slot of the frame. -/
theorem Rel.setT (h : Rel m τ σ) {n : Nat} {v : TV} {a : AV} (hv : RT τ σ m v a) : Rel m (τ.setT n v) ((W.t n a).apply σ) := by
  have hO : ∀ d, (τ.setT n v).getO d = τ.getO d := fun _ => rfl
  have st : ∀ d, Stays τ (τ.setT n v) σ ((W.t n a).apply σ) m m d := fun d => ⟨rfl, rfl, fun e l cap fz s1 hl => ⟨l, cap, fz, s1, hl, rfl, id⟩, fun g cs fz s1 hg => ⟨g, cs, fz, s1, hg⟩⟩
  refine ⟨?_, fun k => ?_, h.inj, h.at_, fun d o ho => ?_⟩
  · rw [len_apply, h.len]; simp [TState.setT]
  · rw [getT_t]
    have ht : (τ.setT n v).getT k = if k = n ∧ n < τ.tm.length then v else τ.getT k := by
      simp only [TState.setT, TState.getT, List.getD_eq_getElem?_getD, List.getElem?_set]
      by_cases hk : n = k
      · subst hk
        by_cases hl : n < τ.tm.length <;> simp [hl]
      · have : ¬ k = n := fun e => hk e.symm
        simp [hk, this]
    rw [ht, h.len]
    split
    · exact hv.frame (fun _ _ d _ => st d) (fun _ _ _ _ => rfl)
    · exact (h.tm k).frame (fun _ _ d _ => st d) (fun _ _ _ _ => rfl)
  · have := h.ob d o ho
    cases o with
    | sl e l cap fz s1 => exact this
    | gone => exact this
    | var g cs fz s1 =>
      obtain ⟨⟨st', e, c, x, k1, k2, k3⟩, k4, k5⟩ := this
      exact ⟨⟨st', e, c, x, k1, k2.frame (fun _ _ d _ => st d) (fun _ _ _ _ => rfl), k3⟩, k4, k5⟩
end
end Go.Vm
/- Operations that only read. -/
namespace Go.Vm

section
variable {ρ : Type} {τ : TState} {σ : State} {m : Nat → Slot} {orc : Oracle} {dst : Option Nat} {k : KT ρ} {r : ρ}

/-- The operation does what the typed machine says, and goes on as it says. -/
def StepR (orc : Oracle) (op : ROp) (dst : Option Nat) (σ : State) (k : KT ρ) (r : ρ) : Prop :=
  ∃ tv τ' kr kw m' av ws, Does (op.sem orc dst) σ (av, ws) kr ∧ ws.all W.noT = true ∧ (∀ w ∈ ws, w.key ∈ kw) ∧ Rel m' τ' (σ.applyAll ws) ∧ RT τ' (σ.applyAll ws) m' tv av ∧ (k tv τ' kr kw).den = some r

theorem StepR.pure {op : ROp} (h : Rel m τ σ) {tv : TV} {av : AV} {kr kw : List Key} (hd : Does (op.sem orc dst) σ (av, []) kr) (hv : RT τ σ m tv av) (hk : (k tv τ kr kw).den = some r) : StepR orc op dst σ k r :=
  ⟨tv, τ, kr, kw, m, av, [], hd, rfl, by simp, h, hv, hk⟩

theorem Tree.den_req {p : Prop} {i : Decidable p} {x : Tree ρ} (h : (Tree.req p i x).den = some r) : p ∧ x.den = some r := by
  simp only [Tree.den] at h
  split at h
  · exact ⟨‹_›, h⟩
  · cases h
theorem Tree.den_at {α : Type} {d : α} {l : List α} {i : Int} {f : α → Tree ρ} (h : (Tree.at d l i f).den = some r) : ∃ a, 0 ≤ i ∧ l[i.toNat]? = some a ∧ (f a).den = some r := by
  simp only [Tree.den] at h
  split at h
  · split at h
    · exact ⟨_, ‹_›, ‹_›, h⟩
    · cases h
  · cases h
theorem named_den (b : Bool) (v : TV) (f : TV → Tree ρ) : (named b v f).den = (f v).den := by
  unfold named
  split <;> rfl
theorem namedC_den (c : TC) (f : TC → Tree ρ) : (namedC c f).den = (f c).den := by
  unfold namedC
  split <;> rfl
theorem cellsNamed_den (cs : List TC) (f : List TC → Tree ρ) : (cellsNamed cs f).den = (f cs).den := by
  unfold cellsNamed
  split
  · exact namedC_den _ _
  · rfl

theorem RT.bool (b : Bool) : RT τ σ m (tBool b) (.bool b) := rfl
theorem RT.int (k : IntKind) (n : Int) : RT τ σ m (tInt k n) (.int k n) := rfl
theorem RT.str (s : List UInt8) : RT τ σ m (tStr s) (.str s) := rfl

theorem mem_l {α : Type} {a b : List α} : ∀ k ∈ a, k ∈ a ++ b := fun _ h => List.mem_append_left _ h
theorem mem_r {α : Type} {a b : List α} : ∀ k ∈ b, k ∈ a ++ b := fun _ h => List.mem_append_right _ h

/-! ### Cells of values -/
theorem RpL_RCs : ∀ {cs : List TC} {fs : List AV}, RC.RpL cs fs → RCs τ σ m cs fs
  | [], fs, h => h
  | .v t x :: cs, fs, h => by
    obtain ⟨q, h1, h2⟩ := h
    exact ⟨t.cells x, q, h1, rfl, RpL_RCs h2⟩
  | .lst e l ds :: cs, fs, h => by
    obtain ⟨a, q, h1, h2, h3⟩ := h
    exact ⟨[a], q, h1, ⟨a, rfl, h2.imp id fun h => .inl h⟩, RpL_RCs h3⟩
  | .any :: _, _, h => h.elim
  | .bc _ :: _, _, h => h.elim
  | .nil :: _, _, h => h.elim
  | .own _ _ _ :: _, _, h => h.elim
  | .spare _ :: _, _, h => h.elim
  | .vref _ _ :: _, _, h => h.elim
  | .eref _ _ _ :: _, _, h => h.elim
  | .aref _ _ _ _ _ _ :: _, _, h => h.elim
  | .rp _ _ _ _ :: _, _, h => h.elim
theorem tcs_cells : ∀ (t : Ty) (x : t.D), RCs τ σ m (t.tcs x) (t.cells x)
  | .int _, _ => RCs.single.2 rfl
  | .bool, _ => RCs.single.2 rfl
  | .str, _ => RCs.single.2 rfl
  | .list e, l => RCs.single.2 ⟨_, rfl, .inl rfl⟩
  | .st b, x => tcs_cells b x
  | .pair a b, x => (tcs_cells a x.1).append (tcs_cells b x.2)
  | .arr n e, l => RCs.single.2 rfl
theorem RX.cells {g : Bool} {cs : List TC} {x : AV} (h : RX τ σ m g cs x) (hp : g = false → x.plain = true) : RCs τ σ m cs x.cells := by
  unfold RX at h
  cases g with
  | true => obtain ⟨as, rfl, h⟩ := h; exact h
  | false =>
    simp only [Bool.false_eq_true, if_false] at h
    rw [AV.plain_cells (hp rfl)]
    exact h.2

/-- Loaded from cells, with more behind them. -/
theorem load_more {cs : List TC} {as rest : List AV} {n : Nat} {agg : Bool} {v : TV} {K : List Key} (h : RCs τ σ m cs as) (ht : takeT n agg cs = some v) :
    ∃ a, RT τ σ m v a ∧ Does (if agg then (if n ≤ (as ++ rest).length then R.ret (.agg ((as ++ rest).take n), ([] : List W)) else .fail) else match as ++ rest with
        | c :: _ => .ret (c, [])
        | [] => .fail) σ (a, []) K := by
  have := h.takeT ht
  cases agg with
  | true =>
    simp only [if_true] at this ⊢
    refine ⟨.agg (as.take n), this.2, ?_⟩
    rw [if_pos (by simp; omega), List.take_append_of_le_length this.1]
    exact Does.ret _
  | false =>
    simp only [Bool.false_eq_true, if_false] at this ⊢
    obtain ⟨a, q, rfl, h1⟩ := this
    exact ⟨a, h1, Does.ret _⟩

/-! ### The operations -/
theorem op_mv (E : TEnv) (h : Rel m τ σ) {x : Opnd} (hd : (opT E dst τ k (.mv x false)).den = some r) : StepR orc (.mv x false) dst σ k r := by
  simp only [opT, Bool.false_eq_true, if_false, named_den] at hd
  refine StepR.pure h (av := x.val σ) ?_ (h.val x) hd
  simp only [ROp.sem, Bool.false_eq_true, if_false]
  exact Does.bind (Does.opnd x fun _ h => h) (Does.ret _)

theorem op_pick (E : TEnv) (h : Rel m τ σ) {c a b : Opnd} (hd : (opT E dst τ k (.pick c a b)).den = some r) : StepR orc (.pick c a b) dst σ k r := by
  have key : ∀ (v : Bool), c.val σ = .bool v → (k (if v then τ.val a else τ.val b) τ (c.keys ++ a.keys ++ b.keys) []).den = some r → StepR orc (.pick c a b) dst σ k r := by
    intro v hv hk
    refine StepR.pure h (av := if v then a.val σ else b.val σ) (tv := if v then τ.val a else τ.val b) ?_ (by cases v <;> exact h.val _) hk
    simp only [ROp.sem]
    refine Does.bind (Does.opnd c fun x hx => by simp [hx]) (Does.bind (Does.opnd a fun x hx => by simp [hx]) (Does.bind (Does.opnd b fun x hx => by simp [hx]) ?_))
    rw [hv]
    cases v <;> exact Does.ret _
  have hc := h.val c
  simp only [opT] at hd
  split at hd
  · rename_i e
    rw [e] at hc
    exact key true (by have : [c.val σ] = [AV.bool true] := hc; simpa using this) hd
  · rename_i e
    rw [e] at hc
    exact key false (by have : [c.val σ] = [AV.bool false] := hc; simpa using this) hd
  · rename_i x e
    rw [e] at hc
    have hcv : c.val σ = .bool x := by have : [c.val σ] = [AV.bool x] := hc; simpa using this
    simp only [Tree.den] at hd
    refine key x hcv ?_
    cases x <;> simpa using hd
  · cases hd

theorem Rel.obj_var (h : Rel m τ σ) {d : Nat} {g : Bool} {cs : List TC} {fz s1 : Bool} (hd : τ.getO d = some (.var g cs fz s1)) :
    ∃ st e c x, σ.getO (m d) = ⟨st, some ⟨e, [x], true, c⟩⟩ ∧ RX τ σ m g cs x ∧ (g = false → x.plain = true) ∧ (fz = false → σ.getF (m d) = false) := by
  obtain ⟨⟨st, e, c, x, h1, h2, h3⟩, h4, _⟩ := h.ob d _ hd
  exact ⟨st, e, c, x, h1, h2, h3, h4⟩
theorem Rel.obj_sl (h : Rel m τ σ) {d : Nat} {e : Ty} {l : List e.D} {cap : Option Nat} {fz s1 : Bool} (hd : τ.getO d = some (.sl e l cap fz s1)) (hl : l ≠ []) : SlR σ (m d) e l cap fz := by
  rcases (h.ob d _ hd).1 with h1 | h1
  · exact h1
  · exact absurd h1.1 hl
theorem Rel.key_o (h : Rel m τ σ) {d : Nat} {o : TO} (hd : τ.getO d = some o) : Key.o (m d) ∈ τ.ks d := oKeys_o (h.at_ d (by rw [hd]; simp))
theorem Rel.key_f (h : Rel m τ σ) {d : Nat} {o : TO} (hd : τ.getO d = some o) : Key.f (m d) ∈ τ.ks d := oKeys_f (h.at_ d (by rw [hd]; simp))

theorem flat_drop (e : Ty) : ∀ (l : List e.D) (j : Nat), j ≤ l.length → ((l.map fun x => e.cells x).flatten).drop (j * e.width) = ((l.drop j).map fun x => e.cells x).flatten
  | l, 0, _ => by simp
  | [], j + 1, h => by simp at h
  | x :: l, j + 1, h => by
    simp only [List.map_cons, List.flatten_cons, List.drop_succ_cons]
    rw [show (j + 1) * e.width = (e.cells x).length + j * e.width by rw [e.len_cells, Nat.succ_mul, Nat.add_comm], List.drop_append, List.drop_eq_nil_of_le (by omega), List.nil_append]
    rw [show (e.cells x).length + j * e.width - (e.cells x).length = j * e.width by omega]
    exact flat_drop e l j (by simpa using h)
theorem arrRd_flatten {n : Nat} {e : Ty} (l : { l : List e.D // l.length = n }) (j : Nat) (hj : j < n) : ((Ty.arr n e).cells l).drop (j * e.width) = e.cells (l.1.getD j e.dflt) ++ ((l.1.drop (j + 1)).map fun x => e.cells x).flatten := by
  have hj' : j < l.1.length := by rw [l.2]; exact hj
  simp only [Ty.cells]
  rw [flat_drop e l.1 j (by omega), List.drop_eq_getElem_cons hj', List.map_cons, List.flatten_cons]
  simp [List.getD_eq_getElem?_getD, hj']

theorem op_load (E : TEnv) (h : Rel m τ σ) {n : Nat} {agg : Bool} {x : Opnd} (hd : (opT E dst τ k (.load n agg x)).den = some r) : StepR orc (.load n agg x) dst σ k r := by
  have hx := h.val x
  simp only [opT] at hd
  have start : ∀ {K : List Key} {a : AV} {q : AV × List W}, x.val σ = a → (∀ z ∈ x.keys, z ∈ K) → Does (match a with
    | .ro cs => (if agg then (if n ≤ cs.length then R.ret (.agg (cs.take n), ([] : List W)) else .fail) else match cs with
        | c :: _ => .ret (c, [])
        | [] => .fail)
    | .ref d st i off => (theObj d st).bind fun o => match o.xs[i]? with
      | some x => (if agg then (if n ≤ (x.cells.drop off).length then R.ret (.agg ((x.cells.drop off).take n), ([] : List W)) else .fail) else match x.cells.drop off with
        | c :: _ => .ret (c, [])
        | [] => .fail)
      | none => .fail
    | _ => .fail) σ q K → Does ((ROp.load n agg x).sem orc dst) σ q K := by
    intro K a q ha hk hq
    simp only [ROp.sem]
    refine Does.bind (Does.opnd x hk) ?_
    rw [ha]
    cases a <;> exact hq
  split at hd
  · -- a pointer that is only read
    rename_i t y off ds e
    rw [e] at hx
    split at hd
    · rename_i cs hcs
      split at hd
      · rename_i v hv
        rcases hx with ⟨fs, rest, h1, h2⟩ | ⟨s, hs, st, c, xs, i, h1, h2, h3⟩
        · have h2' : x.val σ = .ro ((fs ++ rest).drop off) := by simpa using h2
          obtain ⟨k1, k2⟩ := (RpL_RCs (τ := τ) (σ := σ) (m := m) h1).dropW hcs
          obtain ⟨a, g1, g2⟩ := load_more (rest := rest) (K := x.keys ++ oKeys ds) k1 hv
          refine StepR.pure h (start h2' (fun z hz => List.mem_append_left _ hz) ?_) g1 hd
          rw [List.drop_append_of_le_length k2]
          exact g2
        · have h3' : x.val σ = .ref s st i off := by simpa using h3
          obtain ⟨k1, k2⟩ := (tcs_cells (τ := τ) (σ := σ) (m := m) t y).dropW hcs
          obtain ⟨a, g1, g2⟩ := load_ok (K := x.keys ++ oKeys ds) k1 hv
          refine StepR.pure h (start h3' (fun z hz => List.mem_append_left _ hz) ?_) g1 hd
          refine Does.bind (Does.theObj (List.mem_append_right _ (oKeys_o hs)) h1) ?_
          simp only [h2, Ty.enc_cells]
          exact g2
      · cases hd
    · cases hd
  · -- a variable
    rename_i d off e
    rw [e] at hx
    obtain ⟨_, hx⟩ := hx
    have hx' : x.val σ = .ref (m d) (σ.getO (m d)).st 0 off := by simpa using hx
    split at hd
    · rename_i g cs fz s1 ho
      split at hd
      · rename_i cs1 hcs
        split at hd
        · rename_i v hv
          obtain ⟨st, e0, c, y, h1, h2, h3, _⟩ := h.obj_var ho
          obtain ⟨k1, k2⟩ := (h2.cells h3).dropW hcs
          obtain ⟨a, g1, g2⟩ := load_ok (K := x.keys ++ τ.ks d) k1 hv
          refine StepR.pure h (start hx' (fun z hz => List.mem_append_left _ hz) ?_) g1 hd
          rw [h1]
          refine Does.bind (Does.theObj (List.mem_append_right _ (h.key_o ho)) h1) ?_
          simp only [List.getElem?_cons_zero]
          exact g2
        · cases hd
      · cases hd
    · cases hd
  · -- an element
    rename_i d i off e
    rw [e] at hx
    obtain ⟨e1, l1, cap1, fz1, s11, ho1, hi, hx⟩ := hx
    have hx' : x.val σ = .ref (m d) (σ.getO (m d)).st i off := by simpa using hx
    split at hd
    · rename_i e0 l cap fz s1 ho
      rw [ho] at ho1
      simp only [Option.some.injEq, TO.sl.injEq] at ho1
      obtain ⟨rfl, hl, rfl, rfl, rfl⟩ := ho1
      cases hl
      split at hd
      · rename_i cs1 hcs
        split at hd
        · rename_i v hv
          obtain ⟨⟨st, c, h1, h2, h3⟩, _⟩ := h.obj_sl ho (by intro e; rw [e] at hi; simp at hi)
          obtain ⟨k1, k2⟩ := (tcs_cells (τ := τ) (σ := σ) (m := m) e0 (l.getD i e0.dflt)).dropW hcs
          obtain ⟨a, g1, g2⟩ := load_ok (K := x.keys ++ τ.ks d) k1 hv
          refine StepR.pure h (start hx' (fun z hz => List.mem_append_left _ hz) ?_) g1 hd
          rw [h1]
          refine Does.bind (Does.theObj (List.mem_append_right _ (h.key_o ho)) h1) ?_
          have : (l.map e0.enc)[i]? = some (e0.enc (l.getD i e0.dflt)) := by
            simp [List.getD_eq_getElem?_getD, hi]
          simp only [this, Ty.enc_cells]
          exact g2
        · cases hd
      · cases hd
    · cases hd
  · -- an element of an array
    rename_i d off n0 e0 j off2 e
    rw [e] at hx
    obtain ⟨_, hj0, hj1, hx⟩ := hx
    have hx' : x.val σ = .ref (m d) (σ.getO (m d)).st 0 (off + j.toNat * e0.width + off2) := by simpa using hx
    split at hd
    · rename_i g cs fz s1 ho
      split at hd
      · rename_i m' e' l tl hcs
        split at hd
        · rename_i hme
          obtain ⟨rfl, rfl⟩ := hme
          split at hd
          · rename_i cs1 hcs1
            split at hd
            · rename_i v hv
              obtain ⟨st, ee, c, y, h1, h2, h3, _⟩ := h.obj_var ho
              obtain ⟨k1, k2⟩ := (h2.cells h3).dropW hcs
              obtain ⟨p, q, h4, h5, h6⟩ := k1
              have h5' : p = (Ty.arr m' e').cells l := h5
              have hjn : j.toNat < m' := by omega
              have hdr : y.cells.drop (off + j.toNat * e'.width) = e'.cells (l.1.getD j.toNat e'.dflt) ++ (((l.1.drop (j.toNat + 1)).map fun x => e'.cells x).flatten ++ q) := by
                rw [← List.drop_drop, h4, h5', List.drop_append_of_le_length, arrRd_flatten l _ hjn, List.append_assoc]
                rw [Ty.len_cells]; simp only [Ty.width]; exact Nat.mul_le_mul_right _ (by omega)
              obtain ⟨g1, g2⟩ := (tcs_cells (τ := τ) (σ := σ) (m := m) e' (arrRd e'.dflt l j)).dropW hcs1
              obtain ⟨a, g3, g4⟩ := load_more (rest := ((l.1.drop (j.toNat + 1)).map fun x => e'.cells x).flatten ++ q) (K := x.keys ++ τ.ks d) g1 hv
              refine StepR.pure h (start hx' (fun z hz => List.mem_append_left _ hz) ?_) g3 hd
              rw [h1]
              refine Does.bind (Does.theObj (List.mem_append_right _ (h.key_o ho)) h1) ?_
              simp only [List.getElem?_cons_zero]
              rw [← List.drop_drop, hdr, List.drop_append_of_le_length (by exact g2)]
              exact g4
            · cases hd
          · cases hd
        · cases hd
      · cases hd
    · cases hd
  · cases hd
end
end Go.Vm
/- More operations that only read. -/
namespace Go.Vm

section
variable {ρ : Type} {τ : TState} {σ : State} {m : Nat → Slot} {orc : Oracle} {dst : Option Nat} {k : KT ρ} {r : ρ}

theorem op_nilck (E : TEnv) (h : Rel m τ σ) {x : Opnd} (hd : (opT E dst τ k (.nilck x)).den = some r) : StepR orc (.nilck x) dst σ k r := by
  have hx := h.val x
  have start : ∀ {K : List Key} {q : AV × List W}, (∀ z ∈ x.keys, z ∈ K) → Does (match x.val σ with
    | .ro _ => R.ret (x.val σ, ([] : List W))
    | .fn _ _ _ => .ret (x.val σ, [])
    | .ref d st _ _ => (theObj d st).bind fun _ => .ret (x.val σ, [])
    | _ => .fail) σ q K → Does ((ROp.nilck x).sem orc dst) σ q K := fun hk hq => Does.bind (Does.opnd x hk) hq
  simp only [opT] at hd
  split at hd
  · rename_i t y off ds e
    have hx0 := hx
    rw [e] at hx
    refine StepR.pure h (start (fun z hz => List.mem_append_left _ hz) ?_) hx0 hd
    rcases hx with ⟨fs, rest, h1, h2⟩ | ⟨s, hs, st, c, xs, i, h1, h2, h3⟩
    · have h2' : x.val σ = .ro ((fs ++ rest).drop off) := by simpa using h2
      rw [h2']; exact Does.ret _
    · have h3' : x.val σ = .ref s st i off := by simpa using h3
      rw [h3']
      exact Does.bind (Does.theObj (List.mem_append_right _ (oKeys_o hs)) h1) (Does.ret _)
  · rename_i d off e
    have hx0 := hx
    rw [e] at hx
    obtain ⟨⟨g, cs, fz, s1, ho⟩, hx⟩ := hx
    have hx' : x.val σ = .ref (m d) (σ.getO (m d)).st 0 off := by simpa using hx
    refine StepR.pure h (start (fun z hz => List.mem_append_left _ hz) ?_) hx0 hd
    obtain ⟨st, e0, c, y, h1, _⟩ := h.obj_var ho
    rw [hx', h1]
    exact Does.bind (Does.theObj (List.mem_append_right _ (h.key_o ho)) h1) (Does.ret _)
  · rename_i d i off e
    have hx0 := hx
    rw [e] at hx
    obtain ⟨e1, l1, cap1, fz1, s11, ho, hi, hx⟩ := hx
    have hx' : x.val σ = .ref (m d) (σ.getO (m d)).st i off := by simpa using hx
    refine StepR.pure h (start (fun z hz => List.mem_append_left _ hz) ?_) hx0 hd
    obtain ⟨⟨st, c, h1, _⟩, _⟩ := h.obj_sl ho (by intro e; rw [e] at hi; simp at hi)
    rw [hx', h1]
    exact Does.bind (Does.theObj (List.mem_append_right _ (h.key_o ho)) h1) (Does.ret _)
  · rename_i d off n e0 j off2 e
    have hx0 := hx
    rw [e] at hx
    obtain ⟨⟨g, cs, fz, s1, ho⟩, _, _, hx⟩ := hx
    have hx' : x.val σ = .ref (m d) (σ.getO (m d)).st 0 (off + j.toNat * e0.width + off2) := by simpa using hx
    refine StepR.pure h (start (fun z hz => List.mem_append_left _ hz) ?_) hx0 hd
    obtain ⟨st, ee, c, y, h1, _⟩ := h.obj_var ho
    rw [hx', h1]
    exact Does.bind (Does.theObj (List.mem_append_right _ (h.key_o ho)) h1) (Does.ret _)
  · rename_i g a b e
    have hx0 := hx
    rw [e] at hx
    obtain ⟨u, v, hx, _⟩ := hx
    refine StepR.pure h (start (fun z hz => hz) ?_) hx0 hd
    rw [hx]; exact Does.ret _
  · cases hd

theorem reqI_den {lit : Option Int} {p : Int → Prop} [DecidablePred p] {n : Int} {x : Tree ρ} (hl : ∀ z, lit = some z → z = n) (h : (reqI lit p n x).den = some r) : p n ∧ x.den = some r := by
  unfold reqI at h
  cases lit with
  | none => exact Tree.den_req h
  | some z =>
    have := hl z rfl
    subst this
    simp only at h
    split at h
    · exact ⟨‹_›, h⟩
    · cases h
theorem lit_ok {x : Opnd} {kk : IntKind} {n z : Int} (h : x.val σ = .int kk n) (hz : x.lit = some z) : z = n := by
  cases x with
  | t i => cases hz
  | c a =>
    cases a <;> first | (cases hz; done) | skip
    simp only [Opnd.lit, Option.some.injEq] at hz
    have : AV.int _ _ = AV.int kk n := h
    simp only [AV.int.injEq] at this
    rw [← hz]; exact this.2

theorem binI_ok {op : BinOp} {k1 k2 : IntKind} {a b : Int} {lb : Option Int} {go : TV → Tree ρ} (hl : ∀ z, lb = some z → z = b) (h : (binI op k1 k2 a b lb go).den = some r) :
    ∃ tv av, binV op (.int k1 a) (.int k2 b) = some av ∧ (∀ τ σ m, RT τ σ m tv av) ∧ (go tv).den = some r := by
  unfold binI at h
  split at h
  · obtain ⟨h1, h2⟩ := reqI_den hl h
    exact ⟨_, _, by simp only [binV]; rw [if_neg (by omega)]; rfl, fun _ _ _ => RT.int _ _, h2⟩
  · obtain ⟨h1, h2⟩ := reqI_den hl h
    exact ⟨_, _, by simp only [binV]; rw [if_neg (by omega)]; rfl, fun _ _ _ => RT.int _ _, h2⟩
  · rename_i hs1 hs2
    split at h
    · rename_i hk
      subst hk
      split at h
      · exact ⟨_, _, by simp only [binV, if_true]; rfl, fun _ _ _ => RT.int _ _, h⟩
      · exact ⟨_, _, by simp only [binV, if_true]; rfl, fun _ _ _ => RT.int _ _, h⟩
      · exact ⟨_, _, by simp only [binV, if_true]; rfl, fun _ _ _ => RT.int _ _, h⟩
      · obtain ⟨h1, h2⟩ := reqI_den hl h
        exact ⟨_, _, by simp only [binV, if_true, intBin]; rw [if_neg h1]; rfl, fun _ _ _ => RT.int _ _, h2⟩
      · obtain ⟨h1, h2⟩ := reqI_den hl h
        exact ⟨_, _, by simp only [binV, if_true, intBin]; rw [if_neg h1]; rfl, fun _ _ _ => RT.int _ _, h2⟩
      · exact ⟨_, _, by simp only [binV, if_true]; rfl, fun _ _ _ => RT.int _ _, h⟩
      · exact ⟨_, _, by simp only [binV, if_true]; rfl, fun _ _ _ => RT.int _ _, h⟩
      · exact ⟨_, _, by simp only [binV, if_true]; rfl, fun _ _ _ => RT.int _ _, h⟩
      · exact ⟨_, _, by simp only [binV, if_true]; rfl, fun _ _ _ => RT.int _ _, h⟩
      · exact ⟨_, _, by simp only [binV, if_true]; rfl, fun _ _ _ => RT.bool _, h⟩
      · exact ⟨_, _, by simp only [binV, if_true]; rfl, fun _ _ _ => RT.bool _, h⟩
      · exact ⟨_, _, by simp only [binV, if_true]; rfl, fun _ _ _ => RT.bool _, h⟩
      · exact ⟨_, _, by simp only [binV, if_true]; rfl, fun _ _ _ => RT.bool _, h⟩
      · exact ⟨_, _, by simp only [binV, if_true]; rfl, fun _ _ _ => RT.bool _, h⟩
      · exact ⟨_, _, by simp only [binV, if_true]; rfl, fun _ _ _ => RT.bool _, h⟩
      · cases h
    · cases h
theorem binS_ok {op : BinOp} {a b : List UInt8} {go : TV → Tree ρ} (h : (binS op a b go).den = some r) :
    ∃ tv av, binV op (.str a) (.str b) = some av ∧ (∀ τ σ m, RT τ σ m tv av) ∧ (go tv).den = some r := by
  unfold binS at h
  split at h
  · obtain ⟨h1, h2⟩ := Tree.den_req h
    exact ⟨_, _, by simp only [binV]; rw [if_pos h1], fun _ _ _ => RT.str _, h2⟩
  · exact ⟨_, _, by simp only [binV]; rfl, fun _ _ _ => RT.bool _, h⟩
  · exact ⟨_, _, by simp only [binV]; rfl, fun _ _ _ => RT.bool _, h⟩
  · exact ⟨_, _, by simp only [binV]; rfl, fun _ _ _ => RT.bool _, h⟩
  · exact ⟨_, _, by simp only [binV]; rfl, fun _ _ _ => RT.bool _, h⟩
  · exact ⟨_, _, by simp only [binV]; rfl, fun _ _ _ => RT.bool _, h⟩
  · exact ⟨_, _, by simp only [binV]; rfl, fun _ _ _ => RT.bool _, h⟩
  · cases h

theorem op_bin (E : TEnv) (h : Rel m τ σ) {c : Nat} {op : BinOp} {x y : Opnd} (hd : (opT E dst τ k (.bin c op x y)).den = some r) : StepR orc (.bin c op x y) dst σ k r := by
  have hx := h.val x
  have hy := h.val y
  have fin : ∀ {tv : TV} {av : AV}, binTag c (x.val σ) = true → binV op (x.val σ) (y.val σ) = some av → RT τ σ m tv av → (k tv τ (x.keys ++ y.keys) []).den = some r → StepR orc (.bin c op x y) dst σ k r := by
    intro tv av ht hb hv hk
    refine StepR.pure h ?_ hv hk
    simp only [ROp.sem]
    refine Does.bind (Does.opnd x fun z hz => List.mem_append_left _ hz) (Does.bind (Does.opnd y fun z hz => List.mem_append_right _ hz) ?_)
    rw [ht, if_pos rfl]
    exact Does.bind (Does.opt hb) (Does.ret _)
  simp only [opT] at hd
  split at hd
  · rename_i k1 a k2 b e1 e2
    have h1 := asI_ok hx e1
    have h2 := asI_ok hy e2
    obtain ⟨tv, av, g1, g2, g3⟩ := binI_ok (fun z hz => lit_ok h2 hz) hd
    exact fin (by rw [h1]; rfl) (by rw [h1, h2]; exact g1) (g2 _ _ _) g3
  · split at hd
    · rename_i a b e1 e2
      have h1 := asS_ok hx e1
      have h2 := asS_ok hy e2
      obtain ⟨tv, av, g1, g2, g3⟩ := binS_ok hd
      exact fin (by rw [h1]; rfl) (by rw [h1, h2]; exact g1) (g2 _ _ _) g3
    · cases hd
  · split at hd
    · rename_i a b e1 e2
      have h1 := asB_ok hx e1
      have h2 := asB_ok hy e2
      exact fin (by rw [h1]; rfl) (by rw [h1, h2]; rfl) (RT.bool _) hd
    · rename_i a b e1 e2
      have h1 := asB_ok hx e1
      have h2 := asB_ok hy e2
      exact fin (by rw [h1]; rfl) (by rw [h1, h2]; rfl) (RT.bool _) hd
    · cases hd
  · cases hd

theorem eqT_ok : ∀ {ks : List Nat} {xs ys : List TC} {as bs : List AV} {b : Bool}, eqT ks xs ys = some b → RCs τ σ m xs as → RCs τ σ m ys bs → eqCells ks as bs = some b
  | [], [], [], as, bs, b, h, ha, hb => by
    rw [show as = [] from ha, show bs = [] from hb]
    simpa [eqT, eqCells] using h
  | [], [], _ :: _, _, _, _, h, _, _ => by simp [eqT] at h
  | [], _ :: _, _, _, _, _, h, _, _ => by simp [eqT] at h
  | _ :: _, [], _, _, _, _, h, _, _ => by simp [eqT] at h
  | _ :: _, _ :: _, [], _, _, _, h, _, _ => by simp [eqT] at h
  | n :: ks, x :: xs, y :: ys, as, bs, b, h, ⟨p, q, h1, h2, h3⟩, ⟨p', q', h1', h2', h3'⟩ => by
    simp only [eqT] at h
    cases hr : eqT ks xs ys with
    | none => simp [hr] at h
    | some r0 =>
      simp only [hr] at h
      have ih := eqT_ok hr h3 h3'
      subst h1 h1'
      split at h
      · split at h
        · rename_i k1 a k2 b hk
          subst hk
          rw [show p = [AV.int _ _] from h2, show p' = [AV.int _ _] from h2']
          simp only [List.singleton_append, eqCells, eqCell, if_true, ih, Option.map_some]
          exact h
        · cases h
      · split at h
        · rename_i a b e1 e2
          obtain ⟨pa, rfl⟩ := List.length_eq_one_iff.1 (show p.length = 1 by
            rw [h2.length]; cases x <;> first | rfl | (cases e1; done) | skip
            rename_i t z
            cases t <;> first | rfl | cases e1)
          obtain ⟨pb, rfl⟩ := List.length_eq_one_iff.1 (show p'.length = 1 by
            rw [h2'.length]; cases y <;> first | rfl | (cases e2; done) | skip
            rename_i t z
            cases t <;> first | rfl | cases e2)
          have g1 := asB_ok (v := .c x) h2 e1
          have g2 := asB_ok (v := .c y) h2' e2
          subst g1 g2
          simp only [List.singleton_append, eqCells, eqCell, ih, Option.map_some]
          exact h
        · cases h
      · rw [show p = [AV.str _] from h2, show p' = [AV.str _] from h2']
        simp only [List.singleton_append, eqCells, eqCell, ih, Option.map_some]
        exact h
      · cases h

theorem op_eqAgg (E : TEnv) (h : Rel m τ σ) {neg : Bool} {kk : List Nat} {x y : Opnd} (hd : (opT E dst τ k (.eqAgg neg kk x y)).den = some r) : StepR orc (.eqAgg neg kk x y) dst σ k r := by
  have hx := h.val x
  have hy := h.val y
  simp only [opT] at hd
  split at hd
  · rename_i a b e1 e2
    rw [e1] at hx
    rw [e2] at hy
    obtain ⟨as, hx1, hx2⟩ := hx
    obtain ⟨bs, hy1, hy2⟩ := hy
    split at hd
    · rename_i v hv
      refine StepR.pure h (av := .bool (v != neg)) ?_ ?_ hd
      · simp only [ROp.sem]
        refine Does.bind (Does.opnd x fun z hz => List.mem_append_left _ hz) (Does.bind (Does.opnd y fun z hz => List.mem_append_right _ hz) ?_)
        rw [hx1, hy1]
        exact Does.bind (Does.opt (eqT_ok hv hx2 hy2)) (Does.ret _)
      · cases neg <;> cases v <;> rfl
    · cases hd
  · cases hd

theorem op_un (E : TEnv) (h : Rel m τ σ) {op : UnOp} {x : Opnd} (hd : (opT E dst τ k (.un op x)).den = some r) : StepR orc (.un op x) dst σ k r := by
  have hx := h.val x
  have fin : ∀ {tv : TV} {av : AV}, unV op (x.val σ) = some av → RT τ σ m tv av → (k tv τ x.keys []).den = some r → StepR orc (.un op x) dst σ k r := by
    intro tv av hb hv hk
    refine StepR.pure h ?_ hv hk
    simp only [ROp.sem]
    exact Does.bind (Does.opnd x fun z hz => hz) (Does.bind (Does.opt hb) (Does.ret _))
  simp only [opT] at hd
  split at hd
  · rename_i b e
    exact fin (by rw [asB_ok hx e]; rfl) (RT.bool _) hd
  · rename_i kk n e
    exact fin (by rw [asI_ok hx e]; rfl) (RT.int _ _) hd
  · rename_i kk n e
    exact fin (by rw [asI_ok hx e]; rfl) (RT.int _ _) hd
  · cases hd

theorem op_conv (E : TEnv) (h : Rel m τ σ) {kk : IntKind} {x : Opnd} (hd : (opT E dst τ k (.conv kk x)).den = some r) : StepR orc (.conv kk x) dst σ k r := by
  have hx := h.val x
  simp only [opT] at hd
  split at hd
  · rename_i k0 n e
    refine StepR.pure h (av := .int kk (kk.wrap n)) ?_ (RT.int _ _) hd
    simp only [ROp.sem]
    refine Does.bind (Does.opnd x fun z hz => hz) ?_
    rw [asI_ok hx e]
    exact Does.ret _
  · cases hd

/-- A list that is read. -/
theorem elems_ok (h : Rel m τ σ) {e : Ty} {v : TV} {a : AV} {l : List e.D} {ds : List Slot} {K : List Key} (hv : RT τ σ m v a) (he : elemsT τ e v = some (l, ds)) (hk : ∀ s ∈ ds, Key.o s ∈ K) :
    Does (elems e.width a) σ (l.map e.enc) K := by
  unfold elemsT at he
  split at he
  · simp only [Option.some.injEq, Prod.mk.injEq] at he
    obtain ⟨rfl, rfl⟩ := he
    have : a = .nil := by have : [a] = [AV.nil] := hv; simpa using this
    subst this
    exact Does.ret _
  · rename_i e' l' ds'
    split at he
    · rename_i hee
      subst hee
      simp only [Option.some.injEq, Prod.mk.injEq] at he
      obtain ⟨rfl, rfl⟩ := he
      obtain ⟨a', ha, hv⟩ := hv
      simp only [List.cons.injEq, and_true] at ha
      subst ha
      rcases hv with rfl | ⟨rfl, rfl⟩ | ⟨s, hs, st, c, lo, len, xs, h1, h2, h3, h4, rfl⟩
      · simp only [elems, beq_self_eq_true, if_true]; exact Does.ret _
      · exact Does.ret _
      · simp only [elems]
        refine Does.bind (Does.theObj (hk s hs) h1) ?_
        simp only [beq_self_eq_true, Bool.not_false, Bool.true_and, decide_eq_true h3, if_true, h4]
        exact Does.ret _
    · cases he
  · rename_i d w mn
    obtain ⟨a', ha, e1, l1, cap, fz, s1, ho, hv⟩ := hv
    simp only [List.cons.injEq, and_true] at ha
    subst ha
    rw [ho] at he
    simp only at he
    split at he
    · rename_i hee
      subst hee
      have hat := h.at_ d (by rw [ho]; simp)
      rcases hv with ⟨⟨⟨st, c, g1, g2, g3⟩, g4⟩, hw⟩ | ⟨rfl, rfl, rfl, hw⟩
      · cases w with
        | none =>
          simp only [Option.some.injEq, Prod.mk.injEq] at he
          obtain ⟨rfl, rfl⟩ := he
          simp only at hw
          subst hw
          rw [g1]
          simp only [elems]
          refine Does.bind (Does.theObj (hk _ hat) g1) ?_
          simp only [beq_self_eq_true, Bool.not_false, Bool.true_and, Nat.zero_add, List.length_map, Nat.le_refl, decide_true, if_true, List.drop_zero]
          rw [List.take_of_length_le (by simp)]
          exact Does.ret _
        | some p =>
          obtain ⟨lo, n⟩ := p
          simp only [Option.some.injEq, Prod.mk.injEq] at he
          obtain ⟨rfl, rfl⟩ := he
          obtain ⟨hw1, hw2⟩ := hw
          subst hw2
          rw [g1]
          simp only [elems]
          refine Does.bind (Does.theObj (hk _ hat) g1) ?_
          simp only [beq_self_eq_true, Bool.not_false, Bool.true_and, List.length_map, decide_eq_true hw1, if_true]
          rw [List.map_take, List.map_drop]
          exact Does.ret _
      · cases w with
        | none =>
          simp only [Option.some.injEq, Prod.mk.injEq] at he
          obtain ⟨rfl, rfl⟩ := he
          exact Does.ret _
        | some p =>
          simp only [Option.some.injEq, Prod.mk.injEq] at he
          obtain ⟨rfl, rfl⟩ := he
          simp only [List.drop_nil, List.take_nil]
          exact Does.ret _
    · cases he
  · rename_i s
    split at he
    · rename_i hee
      subst hee
      simp only [Option.some.injEq, Prod.mk.injEq] at he
      obtain ⟨rfl, rfl⟩ := he
      have : a = .str s := by have : [a] = [AV.str s] := hv; simpa using this
      subst this
      simp only [elems, Ty.width, beq_self_eq_true, if_true, toBytes, List.map_map]
      exact Does.ret _
    · cases he
  · cases he

theorem bytesOf_enc : ∀ (l : List Int), bytesOf (l.map (Ty.int .u8).enc) = some (ofBytes l)
  | [] => rfl
  | n :: l => by
    have := bytesOf_enc l
    simp only [List.map_cons, bytesOf, Ty.enc, enc1, Ty.one, Ty.cells, if_true, List.headD_cons] at this ⊢
    rw [this]; rfl

theorem op_toStr (E : TEnv) (h : Rel m τ σ) {st : Bool} {x : Opnd} (hd : (opT E dst τ k (.toStr st x)).den = some r) : StepR orc (.toStr st x) dst σ k r := by
  have hx := h.val x
  cases st with
  | true =>
    simp only [opT, if_true] at hd
    split at hd
    · rename_i s e
      refine StepR.pure h (av := .str s) ?_ (RT.str _) hd
      simp only [ROp.sem]
      refine Does.bind (Does.opnd x fun z hz => hz) ?_
      rw [asS_ok hx e]
      exact Does.ret _
    · cases hd
  | false =>
    simp only [opT, Bool.false_eq_true, if_false] at hd
    split at hd
    · rename_i l ds e1 e2
      refine StepR.pure h (av := .str (ofBytes l)) ?_ (RT.str _) hd
      simp only [ROp.sem]
      refine Does.bind (Does.opnd x fun z hz => List.mem_append_left _ hz) ?_
      have h1 := elems_ok h (K := x.keys ++ oKeys ds) hx e2 (fun s hs => List.mem_append_right _ (oKeys_o hs))
      have h2 : ∀ s, x.val σ ≠ .str s := by
        intro s hs
        rw [hs] at hx
        generalize τ.val x = v at hx e1 e2
        unfold elemsT at e2
        split at e2
        · have : [AV.str s] = [AV.nil] := hx
          simp at this
        · obtain ⟨a, ha, hx⟩ := hx
          simp only [List.cons.injEq, and_true] at ha
          subst ha
          rcases hx with hx | ⟨_, hx⟩ | ⟨_, _, _, _, _, _, _, _, _, _, _, hx⟩ <;> cases hx
        · obtain ⟨a, ha, _, _, _, _, _, _, hx⟩ := hx
          simp only [List.cons.injEq, and_true] at ha
          subst ha
          rcases hx with ⟨_, hx⟩ | ⟨_, hx, _⟩
          · split at hx
            · cases hx
            · cases hx.2
          · cases hx
        · cases e1
        · cases e2
      generalize x.val σ = a at h1 h2
      have hb : bytesOf (l.map (Ty.int .u8).enc) = some (ofBytes l) := bytesOf_enc l
      cases a <;> first | exact absurd rfl (h2 _) | exact Does.bind h1 (Does.bind (Does.opt hb) (Does.ret _))
    · cases hd

theorem op_fld (E : TEnv) (h : Rel m τ σ) {off : Nat} {x : Opnd} (hd : (opT E dst τ k (.fld off x)).den = some r) : StepR orc (.fld off x) dst σ k r := by
  have hx := h.val x
  have start : ∀ {K : List Key} {q : AV × List W}, (∀ z ∈ x.keys, z ∈ K) → Does (match x.val σ with
    | .ro cs => R.ret (.ro (cs.drop off), ([] : List W))
    | .ref d st i o => (theObj d st).bind fun _ => .ret (.ref d st i (o + off), [])
    | _ => .fail) σ q K → Does ((ROp.fld off x).sem orc dst) σ q K := fun hk hq => Does.bind (Does.opnd x hk) hq
  simp only [opT] at hd
  split at hd
  · rename_i t y o ds e
    rw [e] at hx
    rcases hx with ⟨fs, rest, h1, h2⟩ | ⟨s, hs, st, c, xs, i, h1, h2, h3⟩
    · have h2' : x.val σ = .ro ((fs ++ rest).drop o) := by simpa using h2
      refine StepR.pure h (av := .ro ((fs ++ rest).drop (o + off))) (start (fun z hz => List.mem_append_left _ hz) ?_) (by exact Or.inl ⟨fs, rest, h1, rfl⟩) hd
      rw [h2']
      simp only [List.drop_drop]
      exact Does.ret _
    · have h3' : x.val σ = .ref s st i o := by simpa using h3
      refine StepR.pure h (av := .ref s st i (o + off)) (start (fun z hz => List.mem_append_left _ hz) ?_) (by exact Or.inr ⟨s, hs, st, c, xs, i, h1, h2, rfl⟩) hd
      rw [h3']
      exact Does.bind (Does.theObj (List.mem_append_right _ (oKeys_o hs)) h1) (Does.ret _)
  · rename_i d o e
    rw [e] at hx
    obtain ⟨⟨g, cs, fz, s1, ho⟩, hx⟩ := hx
    have hx' : x.val σ = .ref (m d) (σ.getO (m d)).st 0 o := by simpa using hx
    obtain ⟨st, e0, c, y, h1, _⟩ := h.obj_var ho
    refine StepR.pure h (av := .ref (m d) (σ.getO (m d)).st 0 (o + off)) (start (fun z hz => List.mem_append_left _ hz) ?_) (by exact ⟨⟨g, cs, fz, s1, ho⟩, rfl⟩) hd
    rw [hx', h1]
    exact Does.bind (Does.theObj (List.mem_append_right _ (h.key_o ho)) h1) (Does.ret _)
  · rename_i d i o e
    rw [e] at hx
    obtain ⟨e1, l1, cap1, fz1, s11, ho, hi, hx⟩ := hx
    have hx' : x.val σ = .ref (m d) (σ.getO (m d)).st i o := by simpa using hx
    obtain ⟨⟨st, c, h1, _⟩, _⟩ := h.obj_sl ho (by intro e; rw [e] at hi; simp at hi)
    refine StepR.pure h (av := .ref (m d) (σ.getO (m d)).st i (o + off)) (start (fun z hz => List.mem_append_left _ hz) ?_) (by exact ⟨e1, l1, cap1, fz1, s11, ho, hi, rfl⟩) hd
    rw [hx', h1]
    exact Does.bind (Does.theObj (List.mem_append_right _ (h.key_o ho)) h1) (Does.ret _)
  · rename_i d o n e0 j o2 e
    rw [e] at hx
    obtain ⟨⟨g, cs, fz, s1, ho⟩, hj0, hj1, hx⟩ := hx
    have hx' : x.val σ = .ref (m d) (σ.getO (m d)).st 0 (o + j.toNat * e0.width + o2) := by simpa using hx
    obtain ⟨st, ee, c, y, h1, _⟩ := h.obj_var ho
    refine StepR.pure h (av := .ref (m d) (σ.getO (m d)).st 0 (o + j.toNat * e0.width + o2 + off)) (start (fun z hz => List.mem_append_left _ hz) ?_) (by exact ⟨⟨g, cs, fz, s1, ho⟩, hj0, hj1, by rw [Nat.add_assoc _ o2]⟩) hd
    rw [hx', h1]
    exact Does.bind (Does.theObj (List.mem_append_right _ (h.key_o ho)) h1) (Does.ret _)
  · cases hd

theorem op_fldV (E : TEnv) (h : Rel m τ σ) {off n : Nat} {agg : Bool} {x : Opnd} (hd : (opT E dst τ k (.fldV off n agg x)).den = some r) : StepR orc (.fldV off n agg x) dst σ k r := by
  have hx := h.val x
  simp only [opT] at hd
  split at hd
  · rename_i cs e
    rw [e] at hx
    obtain ⟨as, hx1, hx2⟩ := hx
    split at hd
    · rename_i cs1 hcs
      split at hd
      · rename_i v hv
        obtain ⟨k1, k2⟩ := hx2.dropW hcs
        have := k1.takeT hv
        cases agg with
        | true =>
          simp only [if_true] at this
          refine StepR.pure h (av := .agg ((as.drop off).take n)) ?_ this.2 hd
          simp only [ROp.sem]
          refine Does.bind (Does.opnd x fun z hz => hz) ?_
          rw [hx1]
          have hl : off + n ≤ as.length := by have := this.1; simp at this; omega
          simp only [if_true, if_pos hl]
          exact Does.ret _
        | false =>
          simp only [Bool.false_eq_true, if_false] at this
          obtain ⟨a, q, h1, h2⟩ := this
          refine StepR.pure h (av := a) ?_ h2 hd
          simp only [ROp.sem]
          refine Does.bind (Does.opnd x fun z hz => hz) ?_
          rw [hx1]
          simp only [Bool.false_eq_true, if_false]
          refine Does.bind (Does.opt (a := a) ?_) (Does.ret _)
          have : (as.drop off)[0]? = some a := by rw [h1]; rfl
          simpa using this
      · cases hd
    · cases hd
  · cases hd

theorem op_ext (E : TEnv) (h : Rel m τ σ) {x : Opnd} {i : Nat} (hd : (opT E dst τ k (.ext x i)).den = some r) : StepR orc (.ext x i) dst σ k r := by
  have hx := h.val x
  simp only [opT] at hd
  split at hd
  · rename_i vs e
    rw [e] at hx
    obtain ⟨as, h1, h2, h3⟩ := hx
    have fin : ∀ (p : Bool × List TC) (tv : TV), vs[i]? = some p → (∀ a, RX τ σ m p.1 p.2 a → RT τ σ m tv a) → (k tv τ x.keys []).den = some r → StepR orc (.ext x i) dst σ k r := by
      intro p tv hp hv hk
      have hi : i < as.length := by rw [h2]; exact (List.getElem?_eq_some_iff.1 hp).1
      refine StepR.pure h (av := as[i]) ?_ (hv _ (h3 i p as[i] hp (List.getElem?_eq_getElem hi))) hk
      simp only [ROp.sem]
      refine Does.bind (Does.opnd x fun z hz => hz) ?_
      rw [h1]
      exact Does.bind (Does.opt (List.getElem?_eq_getElem hi)) (Does.ret _)
    split at hd
    · rename_i cs hp
      exact fin _ _ hp (fun a ha => by
        unfold RX at ha
        simp only [if_true] at ha
        exact ha) hd
    · rename_i c hp
      exact fin _ _ hp (fun a ha => by
        unfold RX at ha
        simp only [Bool.false_eq_true, if_false] at ha
        exact RCs.single.1 ha.2) hd
    · cases hd
  · cases hd

theorem op_len (E : TEnv) (h : Rel m τ σ) {st : Bool} {x : Opnd} (hd : (opT E dst τ k (.len st x)).den = some r) : StepR orc (.len st x) dst σ k r := by
  have hx := h.val x
  have start : ∀ {K : List Key} {a : AV} {q : AV × List W}, x.val σ = a → (∀ z ∈ x.keys, z ∈ K) → Does (match st, a with
    | true, .str s => R.ret (.int .i64 s.length, ([] : List W))
    | false, .nil => .ret (.int .i64 0, [])
    | false, .emp => .ret (.int .i64 0, [])
    | false, .sl _ xs => .ret (.int .i64 xs.length, [])
    | false, .sref d st _ ln => (theObj d st).bind fun _ => .ret (.int .i64 ln, [])
    | _, _ => .fail) σ q K → Does ((ROp.len st x).sem orc dst) σ q K := by
    intro K a q ha hk hq
    simp only [ROp.sem]
    refine Does.bind (Does.opnd x hk) ?_
    rw [ha]
    cases st <;> cases a <;> exact hq
  cases st with
  | true =>
    simp only [opT, if_true] at hd
    split at hd
    · rename_i s e
      exact StepR.pure h (start (asS_ok hx e) (fun z hz => hz) (Does.ret _)) (RT.int _ _) hd
    · cases hd
  | false =>
    simp only [opT, Bool.false_eq_true, if_false] at hd
    split at hd
    · rename_i e
      rw [e] at hx
      have : x.val σ = .nil := by have : [x.val σ] = [AV.nil] := hx; simpa using this
      exact StepR.pure h (start this (fun z hz => hz) (Does.ret _)) (RT.int _ _) hd
    · rename_i t l ds e
      rw [e] at hx
      obtain ⟨a, ha, hx⟩ := hx
      have ha' : x.val σ = a := by simpa using ha
      rcases hx with rfl | ⟨rfl, rfl⟩ | ⟨s, hs, st, c, lo, len, xs, h1, h2, h3, h4, rfl⟩
      · refine StepR.pure h (start ha' (fun z hz => List.mem_append_left _ hz) (Does.ret _)) ?_ hd
        rw [List.length_map]; exact RT.int _ _
      · exact StepR.pure h (start ha' (fun z hz => List.mem_append_left _ hz) (Does.ret _)) (RT.int _ _) hd
      · refine StepR.pure h (av := .int .i64 len) (start ha' (fun z hz => List.mem_append_left _ hz) ?_) ?_ hd
        · exact Does.bind (Does.theObj (List.mem_append_right _ (oKeys_o hs)) h1) (Does.ret _)
        · have : len = l.length := by
            have := congrArg List.length h4
            simp at this; omega
          rw [this]; exact RT.int _ _
    · rename_i d lo n mn e
      rw [e] at hx
      obtain ⟨a, ha, e1, l1, cap, fz, s1, ho, hx⟩ := hx
      have ha' : x.val σ = a := by simpa using ha
      rcases hx with ⟨⟨⟨st, c, g1, g2, g3⟩, g4⟩, hw⟩ | ⟨rfl, rfl, rfl, hw⟩
      · obtain ⟨hw1, hw2⟩ := hw
        subst hw2
        refine StepR.pure h (av := .int .i64 n) (start ha' (fun z hz => List.mem_append_left _ hz) ?_) (RT.int _ _) hd
        rw [g1]
        exact Does.bind (Does.theObj (List.mem_append_right _ (h.key_o ho)) g1) (Does.ret _)
      · obtain ⟨rfl, rfl⟩ := hw lo n rfl
        exact StepR.pure h (start ha' (fun z hz => List.mem_append_left _ hz) (Does.ret _)) (RT.int _ _) hd
    · rename_i d mn e
      rw [e] at hx
      obtain ⟨a, ha, e1, l1, cap, fz, s1, ho, hx⟩ := hx
      have ha' : x.val σ = a := by simpa using ha
      rw [ho] at hd
      simp only at hd
      rcases hx with ⟨⟨⟨st, c, g1, g2, g3⟩, g4⟩, hw⟩ | ⟨rfl, rfl, rfl, hw⟩
      · simp only at hw
        subst hw
        refine StepR.pure h (av := .int .i64 l1.length) (start ha' (fun z hz => List.mem_append_left _ hz) ?_) (RT.int _ _) hd
        rw [g1]
        exact Does.bind (Does.theObj (List.mem_append_right _ (h.key_o ho)) g1) (Does.ret _)
      · exact StepR.pure h (start ha' (fun z hz => List.mem_append_left _ hz) (Does.ret _)) (RT.int _ _) hd
    · cases hd

theorem op_mm (E : TEnv) (h : Rel m τ σ) {mx : Bool} {x y : Opnd} (hd : (opT E dst τ k (.mm mx x y)).den = some r) : StepR orc (.mm mx x y) dst σ k r := by
  simp only [opT] at hd
  split at hd
  · rename_i k1 a k2 b e1 e2
    split at hd
    · rename_i hk
      subst hk
      refine StepR.pure h (av := .int k1 (if mx then (if b > a then b else a) else (if b < a then b else a))) ?_ ?_ hd
      · simp only [ROp.sem]
        refine Does.bind (Does.opnd x fun z hz => List.mem_append_left _ hz) (Does.bind (Does.opnd y fun z hz => List.mem_append_right _ hz) ?_)
        rw [asI_ok (h.val x) e1, asI_ok (h.val y) e2]
        simp only [if_true]
        exact Does.ret _
      · cases mx <;> rfl
    · cases hd
  · cases hd

theorem mapM_ok (h : Rel m τ σ) {K : List Key} : ∀ {xs : List Opnd} {cs : List TC}, xs.mapM (fun x => match τ.val x with
      | .c c => some c
      | _ => none) = some cs → (∀ z ∈ xs.flatMap Opnd.keys, z ∈ K) → ∃ as, Does (mapR Opnd.get xs) σ as K ∧ as.length = cs.length ∧ ∀ (j : Nat) (c : TC) (u : AV), cs[j]? = some c → as[j]? = some u → RC τ σ m c [u]
  | [], cs, hm, _ => by
    simp only [List.mapM_nil, Option.pure_def, Option.some.injEq] at hm
    subst hm
    exact ⟨[], Does.ret _, rfl, by simp⟩
  | x :: xs, cs, hm, hk => by
    simp only [List.mapM_cons, Option.bind_eq_bind, Option.pure_def, Option.bind_eq_some_iff, Option.some.injEq] at hm
    obtain ⟨c, h1, cs', h2, rfl⟩ := hm
    obtain ⟨as, g1, g2, g3⟩ := mapM_ok h h2 (fun z hz => hk z (by simp only [List.flatMap_cons, List.mem_append]; exact .inr hz))
    refine ⟨x.val σ :: as, ?_, by simp [g2], fun j c' u hc hu => ?_⟩
    · simp only [mapR]
      exact Does.bind (Does.opnd x fun z hz => hk z (by simp only [List.flatMap_cons, List.mem_append]; exact .inl hz)) (Does.bind g1 (Does.ret _))
    · cases j with
      | zero =>
        simp at hc hu
        subst hc hu
        have hv := h.val x
        split at h1
        · rename_i c0 e
          cases h1
          rw [e] at hv; exact hv
        · cases h1
      | succ j => exact g3 j c' u (by simpa using hc) (by simpa using hu)

theorem op_mkfn (E : TEnv) (h : Rel m τ σ) {g : Nat} {first caps : List Opnd} (hd : (opT E dst τ k (.mkfn g first caps)).den = some r) : StepR orc (.mkfn g first caps) dst σ k r := by
  simp only [opT] at hd
  split at hd
  · rename_i a b e1 e2
    obtain ⟨as, g1, g2, g3⟩ := mapM_ok h (K := (first ++ caps).flatMap Opnd.keys) e1 (fun z hz => by rw [List.flatMap_append]; exact List.mem_append_left _ hz)
    obtain ⟨bs, g4, g5, g6⟩ := mapM_ok h (K := (first ++ caps).flatMap Opnd.keys) e2 (fun z hz => by rw [List.flatMap_append]; exact List.mem_append_right _ hz)
    refine StepR.pure h (av := .fn g as bs) ?_ (by exact ⟨as, bs, rfl, g2, g5, g3, g6⟩) hd
    simp only [ROp.sem]
    exact Does.bind g1 (Does.bind g4 (Does.ret _))
  · cases hd
end
end Go.Vm
/- Places in lists, arrays and strings; parts of them. -/
namespace Go.Vm

section
variable {ρ : Type} {τ : TState} {σ : State} {m : Nat → Slot} {orc : Oracle} {dst : Option Nat} {k : KT ρ} {r : ρ}

theorem Does.idx {a : AV} {kk : IntKind} {n : Int} {K : List Key} (h : a = .int kk n) : Does (idx a) σ n K := by subst h; exact Does.ret _

theorem op_ixA (E : TEnv) (h : Rel m τ σ) {e : Nat} {x i : Opnd} (hd : (opT E dst τ k (.ixA e x i)).den = some r) : StepR orc (.ixA e x i) dst σ k r := by
  have hx := h.val x
  have start : ∀ {K : List Key} {a : AV} {kk : IntKind} {n : Int} {q : AV × List W}, x.val σ = a → i.val σ = .int kk n → (∀ z ∈ x.keys, z ∈ K) → (∀ z ∈ i.keys, z ∈ K) → Does (match a with
    | .sl e' xs => if e' == e && decide (0 ≤ n) then (match xs[n.toNat]? with | some y => R.ret (.ro y.cells, ([] : List W)) | none => .fail) else .fail
    | .sref d st lo ln => (theObj d st).bind fun o => if o.e == e && decide (0 ≤ n ∧ n < ln) then .ret (.ref d st (lo + n.toNat) 0, []) else .fail
    | _ => .fail) σ q K → Does ((ROp.ixA e x i).sem orc dst) σ q K := by
    intro K a kk n q ha hi hk1 hk2 hq
    simp only [ROp.sem]
    refine Does.bind (Does.opnd x hk1) (Does.bind (Does.opnd i hk2) (Does.bind (Does.idx hi) ?_))
    rw [ha]
    cases a <;> exact hq
  simp only [opT] at hd
  split at hd
  · rename_i k1 n t l ds e1 e2
    have hi := asI_ok (h.val i) e1
    split at hd
    · rename_i he
      subst he
      obtain ⟨y, hn, hy, hk⟩ := Tree.den_at hd
      rw [e2] at hx
      obtain ⟨a, ha, hx⟩ := hx
      have ha' : x.val σ = a := by simpa using ha
      rcases hx with rfl | ⟨rfl, _⟩ | ⟨s, hs, st, c, lo, len, xs, h1, h2, h3, h4, rfl⟩
      · refine StepR.pure h (av := .ro (t.cells y)) (start ha' hi (fun z hz => by simp [hz]) (fun z hz => by simp [hz]) ?_) ?_ hk
        · simp only [beq_self_eq_true, hn, decide_true, Bool.and_self, if_true, List.getElem?_map, hy, Option.map_some, Ty.enc_cells]
          exact Does.ret _
        · exact Or.inl ⟨t.cells y, [], tcs_RpL t y, by simp⟩
      · simp at hy
      · have hln : n.toNat < len := by
          have e1 := congrArg List.length h4
          have e2 := (List.getElem?_eq_some_iff.1 hy).1
          simp at e1
          omega
        have hg : xs[lo + n.toNat]? = some (t.enc y) := by
          have : ((xs.drop lo).take len)[n.toNat]? = some (t.enc y) := by rw [h4]; simp [hy]
          rw [List.getElem?_take_of_lt hln, List.getElem?_drop] at this
          exact this
        refine StepR.pure h (av := .ref s st (lo + n.toNat) 0) (start ha' hi (fun z hz => by simp [hz]) (fun z hz => by simp [hz]) ?_) ?_ hk
        · refine Does.bind (Does.theObj (List.mem_append_right _ (oKeys_o hs)) h1) ?_
          have : (0 ≤ n ∧ n < (len : Int)) := ⟨hn, by omega⟩
          simp only [beq_self_eq_true, Bool.true_and, decide_eq_true this, if_true]
          exact Does.ret _
        · exact Or.inr ⟨s, hs, st, c, xs, lo + n.toNat, h1, hg, rfl⟩
    · cases hd
  · rename_i k1 n d w mn e1 e2
    have hi := asI_ok (h.val i) e1
    rw [e2] at hx
    obtain ⟨a, ha, t, l, cap, fz, s1, ho, hx⟩ := hx
    have ha' : x.val σ = a := by simpa using ha
    rw [ho] at hd
    simp only at hd
    split at hd
    · rename_i he
      subst he
      cases w with
      | none =>
        obtain ⟨⟨hn0, hn1⟩, hk⟩ := Tree.den_req hd
        have hlt : n.toNat < l.length := by omega
        rcases hx with ⟨⟨⟨st, c, g1, g2, g3⟩, g4⟩, hw⟩ | ⟨_, _, rfl, _⟩
        · simp only at hw
          subst hw
          refine StepR.pure h (av := .ref (m d) (σ.getO (m d)).st n.toNat 0) (start ha' hi (fun z hz => by simp [hz]) (fun z hz => by simp [hz]) ?_) (by exact ⟨t, l, cap, fz, s1, ho, hlt, rfl⟩) hk
          rw [g1]
          refine Does.bind (Does.theObj (List.mem_append_right _ (h.key_o ho)) g1) ?_
          have : (0 ≤ n ∧ n < (l.length : Int)) := ⟨hn0, hn1⟩
          simp only [beq_self_eq_true, Bool.true_and, decide_eq_true this, if_true, Nat.zero_add]
          exact Does.ret _
        · simp at hlt
      | some p =>
        obtain ⟨lo, len⟩ := p
        obtain ⟨⟨hn0, hn1⟩, hk⟩ := Tree.den_req hd
        rcases hx with ⟨⟨⟨st, c, g1, g2, g3⟩, g4⟩, hw⟩ | ⟨_, _, rfl, hw⟩
        · obtain ⟨hw1, hw2⟩ := hw
          subst hw2
          refine StepR.pure h (av := .ref (m d) (σ.getO (m d)).st (lo + n.toNat) 0) (start ha' hi (fun z hz => by simp [hz]) (fun z hz => by simp [hz]) ?_) (by exact ⟨t, l, cap, fz, s1, ho, by omega, rfl⟩) hk
          rw [g1]
          refine Does.bind (Does.theObj (List.mem_append_right _ (h.key_o ho)) g1) ?_
          have : (0 ≤ n ∧ n < (len : Int)) := ⟨hn0, hn1⟩
          simp only [beq_self_eq_true, Bool.true_and, decide_eq_true this, if_true]
          exact Does.ret _
        · obtain ⟨rfl, rfl⟩ := hw lo len rfl
          exfalso; omega
    · cases hd
  · cases hd
  where
  tcs_RpL : ∀ (t : Ty) (x : t.D), RC.RpL (t.tcs x) (t.cells x)
    | .int _, _ => ⟨[], rfl, rfl⟩
    | .bool, _ => ⟨[], rfl, rfl⟩
    | .str, _ => ⟨[], rfl, rfl⟩
    | .list e, l => ⟨_, [], rfl, .inl rfl, rfl⟩
    | .st b, x => tcs_RpL b x
    | .pair a b, x => RpL_append (tcs_RpL a x.1) (tcs_RpL b x.2)
    | .arr n e, l => ⟨[], (List.append_nil _).symm, rfl⟩
  RpL_append : ∀ {cs ds : List TC} {as bs : List AV}, RC.RpL cs as → RC.RpL ds bs → RC.RpL (cs ++ ds) (as ++ bs)
    | [], ds, as, bs, h, k => by rw [show as = [] from h]; exact k
    | .v t x :: cs, ds, as, bs, h, k => by
      obtain ⟨q, h1, h2⟩ := h
      exact ⟨q ++ bs, by rw [h1, List.append_assoc], RpL_append h2 k⟩
    | .lst e l _ :: cs, ds, as, bs, h, k => by
      obtain ⟨a, q, h1, h2, h3⟩ := h
      exact ⟨a, q ++ bs, by rw [h1]; rfl, h2, RpL_append h3 k⟩
    | .any :: _, _, _, _, h, _ => h.elim
    | .bc _ :: _, _, _, _, h, _ => h.elim
    | .nil :: _, _, _, _, h, _ => h.elim
    | .own _ _ _ :: _, _, _, _, h, _ => h.elim
    | .spare _ :: _, _, _, _, h, _ => h.elim
    | .vref _ _ :: _, _, _, _, h, _ => h.elim
    | .eref _ _ _ :: _, _, _, _, h, _ => h.elim
    | .aref _ _ _ _ _ _ :: _, _, _, _, h, _ => h.elim
    | .rp _ _ _ _ :: _, _, _, _, h, _ => h.elim

/-- An array among the cells as a whole. -/
theorem arrW_ok {cs cs' : List TC} {as : List AV} {off n : Nat} {e : Ty} (h : RCs τ σ m cs as) (ha : arrW cs off n e = some cs') : RCs τ σ m cs' as := by
  unfold arrW at ha
  split at ha
  · cases ha
  · rename_i hf
    have hf' : e.flat = true := by simpa using hf
    split at ha
    · rename_i a b h1 h2
      split at ha
      · rename_i x r0 h3
        cases ha
        obtain ⟨k1, k2⟩ := h.takeW h1
        obtain ⟨k3, k4⟩ := h.dropW h2
        obtain ⟨p, q, g1, g2, _, g4, g5, _⟩ := (Ty.arr n e).take_ok b r0 x _ h3 k3 (.inr hf')
        have := k1.append (show RCs τ σ m (.v (.arr n e) x :: r0) (as.drop off) from ⟨p, q, g1, g4 hf', g5⟩)
        rwa [List.take_append_drop] at this
      · cases ha
    · cases ha

theorem op_ixArr (E : TEnv) (h : Rel m τ σ) {n e : Nat} {x i : Opnd} (hd : (opT E dst τ k (.ixArr n e x i)).den = some r) : StepR orc (.ixArr n e x i) dst σ k r := by
  have hx := h.val x
  have start : ∀ {K : List Key} {a : AV} {kk : IntKind} {j : Int} {q : AV × List W}, x.val σ = a → i.val σ = .int kk j → (∀ z ∈ x.keys, z ∈ K) → (∀ z ∈ i.keys, z ∈ K) → 0 ≤ j → j < n → Does (match a with
      | .ro cs => R.ret (.ro (cs.drop (j.toNat * e)), ([] : List W))
      | .ref d st k o => (theObj d st).bind fun _ => .ret (.ref d st k (o + j.toNat * e), [])
      | _ => .fail) σ q K → Does ((ROp.ixArr n e x i).sem orc dst) σ q K := by
    intro K a kk j q ha hi hk1 hk2 h0 h1 hq
    simp only [ROp.sem]
    refine Does.bind (Does.opnd x hk1) (Does.bind (Does.opnd i hk2) (Does.bind (Does.idx hi) ?_))
    rw [if_pos ⟨h0, h1⟩, ha]
    cases a <;> exact hq
  simp only [opT] at hd
  split at hd
  · rename_i k1 j d off e1 e2
    have hi := asI_ok (h.val i) e1
    rw [e2] at hx
    obtain ⟨⟨_, _, _, _, _⟩, hx⟩ := hx
    have hx' : x.val σ = .ref (m d) (σ.getO (m d)).st 0 off := by simpa using hx
    split at hd
    · rename_i cs fz s1 ho
      split at hd
      · rename_i cs' hcs
        split at hd
        · rename_i he
          obtain ⟨⟨hj0, hj1⟩, hk⟩ := Tree.den_req hd
          obtain ⟨st, ee, c, y, h1, h2, h3, h4⟩ := h.obj_var ho
          have h0 : τ.getO d ≠ none := by rw [ho]; simp
          have st' : ∀ d', Stays τ (τ.putO d (τ.at_ d) (.var true cs' fz s1)) σ σ m m d' := by
            intro d'
            refine ⟨rfl, rfl, fun e0 l cap fz0 s0 hl => ⟨l, cap, fz0, s0, ?_, rfl, id⟩, fun g0 cs0 fz0 s0 hg => ?_⟩
            · rw [TState.getO_put]
              by_cases hdd : d' = d
              · subst hdd; rw [ho] at hl; cases hl
              · rw [if_neg hdd]; exact hl
            · rw [TState.getO_put]
              by_cases hdd : d' = d
              · rw [if_pos hdd]; exact ⟨_, _, _, _, rfl⟩
              · rw [if_neg hdd]; exact ⟨_, _, _, _, hg⟩
          have hrel : Rel m (τ.putO d (τ.at_ d) (.var true cs' fz s1)) σ := by
            have := h.put (σ' := σ) (d := d) (s := m d) (ss := τ.at_ d) (o := .var true cs' fz s1) (h.at_ d h0) (fun _ => rfl) rfl (fun _ _ _ => ⟨rfl, rfl⟩) (fun d' hd' hd0 => h.inj d' d hd' hd0 h0) (fun _ _ _ _ => rfl)
              (.inr (by rw [upd_self]; exact st' d)) (by
                rw [upd_self]
                have hob := h.ob d _ ho
                refine ⟨⟨st, ee, c, y, h1, ?_, h3⟩, h4, hob.2.2⟩
                have goL : ∀ as, RCs τ σ m cs as → RCs (τ.putO d (τ.at_ d) (.var true cs' fz s1)) σ m cs' as := fun as ha => (arrW_ok ha hcs).frame (fun _ _ d' _ => st' d') (fun _ _ _ _ => rfl)
                unfold RX at h2 ⊢
                obtain ⟨as, h5, h6⟩ := h2; exact ⟨as, h5, goL as h6⟩)
            rwa [upd_self] at this
          refine ⟨_, _, _, _, m, .ref (m d) (σ.getO (m d)).st 0 (off + j.toNat * e), [], start hx' hi (fun z hz => by simp [hz]) (fun z hz => by simp [hz]) hj0 hj1 ?_, rfl, by simp, hrel, ?_, hk⟩
          · rw [h1]
            exact Does.bind (Does.theObj (List.mem_append_right _ (h.key_o ho)) h1) (Does.ret _)
          · refine ⟨⟨true, cs', fz, s1, by rw [TState.getO_put, if_pos rfl]⟩, hj0, hj1, ?_⟩
            rw [he]; simp; rfl
        · cases hd
      · cases hd
    · cases hd
  · rename_i k1 j t y off e1 e2
    have hi := asI_ok (h.val i) e1
    rw [e2] at hx
    split at hd
    · rename_i mm e' l tl hcs
      split at hd
      · rename_i hme
        obtain ⟨rfl, rfl⟩ := hme
        obtain ⟨⟨hj0, hj1⟩, hk⟩ := Tree.den_req hd
        rcases hx with ⟨fs, rest, h1, h2⟩ | ⟨s, hs, _⟩
        · have h2' : x.val σ = .ro ((fs ++ rest).drop off) := by simpa using h2
          obtain ⟨k1, k2⟩ := (RpL_RCs (τ := τ) (σ := σ) (m := m) h1).dropW hcs
          obtain ⟨p, q, h4, h5, h6⟩ := k1
          have h5' : p = (Ty.arr mm e').cells l := h5
          have hjn : j.toNat < mm := by omega
          refine StepR.pure h (av := .ro (((fs ++ rest).drop off).drop (j.toNat * e'.width))) (start h2' hi (fun z hz => by simp [hz]) (fun z hz => by simp [hz]) hj0 hj1 (Does.ret _)) ?_ hk
          refine Or.inl ⟨e'.cells (arrRd e'.dflt l j), ((l.1.drop (j.toNat + 1)).map fun x => e'.cells x).flatten ++ q ++ rest, op_ixA.tcs_RpL _ _, ?_⟩
          rw [List.drop_zero, List.drop_append_of_le_length k2, h4, h5', List.append_assoc, List.drop_append_of_le_length, arrRd_flatten l _ hjn]
          · simp [arrRd, List.append_assoc]
          · rw [Ty.len_cells]; simp only [Ty.width]; exact Nat.mul_le_mul_right _ (by omega)
        · cases hs
      · cases hd
    · cases hd
  · cases hd
theorem op_ixV (E : TEnv) (h : Rel m τ σ) {n e : Nat} {agg : Bool} {x i : Opnd} (hd : (opT E dst τ k (.ixV n e agg x i)).den = some r) : StepR orc (.ixV n e agg x i) dst σ k r := by
  have hx := h.val x
  simp only [opT] at hd
  split at hd
  · rename_i k1 j cs e1 e2
    have hi := asI_ok (h.val i) e1
    rw [e2] at hx
    obtain ⟨as, hx1, hx2⟩ := hx
    split at hd
    · rename_i l hl
      split at hd
      · rename_i hme
        obtain ⟨rfl, hagg, hfl⟩ := hme
        obtain ⟨⟨hj0, hj1⟩, hk⟩ := Tree.den_req hd
        have hjn : j.toNat < n := by omega
        split at hk
        · rename_i v hv
          obtain ⟨hl1, _, hl2⟩ := Ty.of_ok hl hx2 (.inr hfl)
          have hcs : as = _ := hl2 hfl
          generalize E.ty (dst.getD 0) = t at *
          have hdr : as.drop (j.toNat * t.width) = t.cells (arrRd t.dflt l j) ++ ((l.1.drop (j.toNat + 1)).map fun x => t.cells x).flatten := by
            rw [hcs]; exact arrRd_flatten l _ hjn
          have hlen : j.toNat * t.width + t.width ≤ as.length := by
            rw [hl1]; simp only [Ty.width]
            rw [← Nat.succ_mul]; exact Nat.mul_le_mul_right _ hjn
          have := (tcs_cells (τ := τ) (σ := σ) (m := m) t (arrRd t.dflt l j)).takeT hv
          have start : ∀ {q : AV × List W}, Does (if agg then (if j.toNat * t.width + t.width ≤ as.length then R.ret (.agg ((as.drop (j.toNat * t.width)).take t.width), ([] : List W)) else .fail) else (R.ofOpt as[j.toNat * t.width]?).bind fun c => .ret (c, [])) σ q (x.keys ++ i.keys) → Does ((ROp.ixV n t.width agg x i).sem orc dst) σ q (x.keys ++ i.keys) := by
            intro q hq
            simp only [ROp.sem]
            refine Does.bind (Does.opnd x fun z hz => List.mem_append_left _ hz) (Does.bind (Does.opnd i fun z hz => List.mem_append_right _ hz) (Does.bind (Does.idx hi) ?_))
            rw [if_pos ⟨hj0, hj1⟩, hx1]
            exact hq
          cases agg with
          | true =>
            simp only [if_true] at this
            refine StepR.pure h (av := .agg (t.cells (arrRd t.dflt l j))) (start ?_) ?_ hk
            · simp only [if_true, if_pos hlen]
              rw [hdr, List.take_append_of_le_length (by rw [Ty.len_cells]; exact Nat.le_refl _), List.take_of_length_le (by rw [Ty.len_cells]; exact Nat.le_refl _)]
              exact Does.ret _
            · have h2 := this.2
              rwa [List.take_of_length_le (by rw [Ty.len_cells]; exact Nat.le_refl _)] at h2
          | false =>
            simp only [Bool.false_eq_true, if_false] at this
            obtain ⟨a, q, h1, h2⟩ := this
            refine StepR.pure h (av := a) (start ?_) h2 hk
            simp only [Bool.false_eq_true, if_false]
            refine Does.bind (Does.opt (a := a) ?_) (Does.ret _)
            have : (as.drop (j.toNat * t.width))[0]? = some a := by rw [hdr, h1]; rfl
            simpa using this
        · cases hk
      · cases hd
    · cases hd
  · cases hd

theorem op_ixS (E : TEnv) (h : Rel m τ σ) {x i : Opnd} (hd : (opT E dst τ k (.ixS x i)).den = some r) : StepR orc (.ixS x i) dst σ k r := by
  simp only [opT] at hd
  split at hd
  · rename_i k1 j s e1 e2
    have hi := asI_ok (h.val i) e1
    have hx := asS_ok (h.val x) e2
    obtain ⟨c, hj, hc, hk⟩ := Tree.den_at hd
    refine StepR.pure h (av := .int .u8 c.toNat) ?_ (RT.int _ _) hk
    simp only [ROp.sem]
    refine Does.bind (Does.opnd x fun z hz => List.mem_append_left _ hz) (Does.bind (Does.opnd i fun z hz => List.mem_append_right _ hz) (Does.bind (Does.idx hi) ?_))
    rw [hx]
    simp only [if_pos hj, hc]
    exact Does.ret _
  · cases hd
end
end Go.Vm
/- Parts of lists; structs put together. -/
namespace Go.Vm

section
variable {ρ : Type} {τ : TState} {σ : State} {m : Nat → Slot} {orc : Oracle} {dst : Option Nat} {k : KT ρ} {r : ρ}

theorem bound_ok (h : Rel m τ σ) {x : Option Opnd} {b : Option (Option Int × Int)} {K : List Key} (hb : boundT τ 0 x = some b) (hk : ∀ z ∈ bKeys x, z ∈ K) (lim dflt : Nat) :
    (b = none → Does (bound lim dflt x) σ dflt K) ∧ ∀ l n, b = some (l, n) → (∀ z, l = some z → z = n) ∧ (0 ≤ n → n ≤ lim → Does (bound lim dflt x) σ n.toNat K) := by
  unfold boundT at hb
  cases x with
  | none =>
    simp only [Option.some.injEq] at hb
    subst hb
    exact ⟨fun _ => Does.ret _, fun l n e => by cases e⟩
  | some y =>
    simp only at hb
    split at hb
    · rename_i k1 n e
      simp only [Option.some.injEq] at hb
      subst hb
      have hi := asI_ok (h.val y) e
      refine ⟨(fun e => by cases e), fun l n' e => ?_⟩
      simp only [Option.some.injEq, Prod.mk.injEq] at e
      obtain ⟨rfl, rfl⟩ := e
      refine ⟨fun z hz => lit_ok hi hz, fun h0 h1 => ?_⟩
      unfold bound
      refine Does.bind (Does.opnd y hk) (Does.bind (Does.idx hi) ?_)
      rw [if_pos ⟨h0, h1⟩]
      exact Does.ret _
    · cases hb

theorem bounds_ok (h : Rel m τ σ) {lo hi : Option Opnd} {l hb : Option (Option Int × Int)} {K : List Key} {len : Nat} {x : Tree ρ} (h1 : boundT τ 0 lo = some l) (h2 : boundT τ 0 hi = some hb)
    (hk1 : ∀ z ∈ bKeys lo, z ∈ K) (hk2 : ∀ z ∈ bKeys hi, z ∈ K) (hd : (withBounds (len : Int) l hb x).den = some r) :
    x.den = some r ∧ (∀ lim, len ≤ lim → Does (bound lim len hi) σ (hiN len hb) K) ∧ Does (bound (hiN len hb) 0 lo) σ (loN l) K ∧ loN l ≤ hiN len hb ∧ hiN len hb ≤ len ∧ (∀ l' n, l = some (l', n) → 0 ≤ n) ∧ (∀ l' n, hb = some (l', n) → 0 ≤ n) := by
  unfold withBounds at hd
  split at hd
  · refine ⟨hd, fun lim _ => (bound_ok h h2 hk2 lim len).1 rfl, (bound_ok h h1 hk1 _ 0).1 rfl, by simp [loN, hiN], by simp [hiN], by simp, by simp⟩
  · rename_i l' n
    have b1 := (bound_ok h h1 hk1 len 0).2 l' n rfl
    have hh : ∀ lim, len ≤ lim → Does (bound lim len hi) σ len K := fun lim _ => (bound_ok h h2 hk2 lim len).1 rfl
    split at hd
    · rename_i hl
      have := b1.1 0 hl
      subst this
      refine ⟨hd, hh, b1.2 (by omega) (by omega), by simp [loN], by simp [hiN], fun _ _ e => by simp at e; omega, by simp⟩
    · obtain ⟨⟨g1, g2⟩, hx⟩ := Tree.den_req hd
      refine ⟨hx, hh, b1.2 g1 g2, by simp [loN, hiN]; omega, by simp [hiN], fun _ _ e => by simp at e; omega, by simp⟩
  · rename_i l' n
    obtain ⟨⟨g1, g2⟩, hx⟩ := Tree.den_req hd
    refine ⟨hx, fun lim hlim => ((bound_ok h h2 hk2 lim len).2 l' n rfl).2 g1 (by omega), (bound_ok h h1 hk1 _ 0).1 rfl, by simp [loN], by simp [hiN]; omega, by simp, fun _ _ e => by simp at e; omega⟩
  · rename_i l' n l'' n'
    have b1 := (bound_ok h h1 hk1 n'.toNat 0).2 l' n rfl
    split at hd
    · rename_i hl
      have := b1.1 0 hl
      subst this
      obtain ⟨⟨g1, g2⟩, hx⟩ := Tree.den_req hd
      refine ⟨hx, fun lim hlim => ((bound_ok h h2 hk2 lim len).2 l'' n' rfl).2 g1 (by omega), b1.2 (by omega) (by omega), by simp [loN], by simp [hiN]; omega, fun _ _ e => by simp at e; omega, fun _ _ e => by simp at e; omega⟩
    · obtain ⟨⟨g1, g2, g3⟩, hx⟩ := Tree.den_req hd
      refine ⟨hx, fun lim hlim => ((bound_ok h h2 hk2 lim len).2 l'' n' rfl).2 (by omega) (by omega), b1.2 g1 (by omega), by simp [loN, hiN]; omega, by simp [hiN]; omega, fun _ _ e => by simp at e; omega, fun _ _ e => by simp at e; omega⟩

theorem cutT_eq {α : Type} (xs : List α) {l h : Option (Option Int × Int)} (h1 : loN l ≤ hiN xs.length h) (h3 : ∀ l' n, l = some (l', n) → 0 ≤ n) (h4 : ∀ l' n, h = some (l', n) → 0 ≤ n) :
    cutT xs l h = (xs.drop (loN l)).take (hiN xs.length h - loN l) := by
  unfold cutT
  split
  · simp [loN, hiN]
  · simp [loN, hiN]
    rw [List.take_of_length_le (by simp)]
  · simp [loN, hiN]
  · rename_i l' n l'' n'
    have a1 := h3 l' n rfl
    have a2 := h4 l'' n' rfl
    simp only [loN, hiN] at h1 ⊢
    unfold part
    congr 1
    omega

theorem op_slice (E : TEnv) (h : Rel m τ σ) {e : Nat} {x : Opnd} {lo hi mx : Option Opnd} (hd : (opT E dst τ k (.slice e x lo hi mx)).den = some r) : StepR orc (.slice e x lo hi mx) dst σ k r := by
  have hx := h.val x
  have start : ∀ {K : List Key} {a : AV} {q : AV × List W}, x.val σ = a → (∀ z ∈ x.keys, z ∈ K) → Does (match a with
    | .str s => (bound s.length s.length hi).bind fun h => (bound h 0 lo).bind fun l =>
      if mx.isNone && e == 0 then R.ret (.str ((s.drop l).take (h - l)), ([] : List W)) else .fail
    | .sl e' xs => (bound xs.length xs.length mx).bind fun m => (bound m xs.length hi).bind fun h => (bound h 0 lo).bind fun l =>
      if e' == e && e != 0 then .ret (.sl e ((xs.drop l).take (h - l)), []) else .fail
    | .nil => (bound 0 0 mx).bind fun m => (bound m 0 hi).bind fun h => (bound h 0 lo).bind fun _ => if e == 0 then .fail else .ret (.nil, [])
    | .sref d st l0 ln => (theObj d st).bind fun o =>
      if o.e == e && e != 0 && !o.var && decide (l0 + ln ≤ o.xs.length) then
        match mx with
        | some _ => (bound ln ln mx).bind fun m => (bound m ln hi).bind fun h => (bound h 0 lo).bind fun _ => .ret (.any, [])
        | none => (bound (o.cap - l0) ln hi).bind fun h => (bound h 0 lo).bind fun l =>
          if h ≤ ln then .ret (.sref d st (l0 + l) (h - l), [])
          else if o.xs.length ≤ l0 + l ∧ l < h then .ret (.spare d st (l0 + l) (h - l), [])
          else .fail
      else .fail
    | _ => .fail) σ q K → Does ((ROp.slice e x lo hi mx).sem orc dst) σ q K := by
    intro K a q ha hk hq
    simp only [ROp.sem]
    refine Does.bind (Does.opnd x hk) ?_
    rw [ha]
    cases a <;> exact hq
  simp only [opT] at hd
  split at hd
  · rename_i l hb e1 e2
    split at hd
    · -- a string
      rename_i s ex
      have hs : x.val σ = .str s := by
        rw [ex] at hx
        have : [x.val σ] = [AV.str s] := hx
        simpa using this
      split at hd
      · rename_i he
        subst he
        obtain ⟨hk, b1, b2, b3, b4, b5, b6⟩ := bounds_ok h (K := x.keys ++ bKeys lo ++ bKeys hi ++ bKeys none) e1 e2 (fun z hz => by simp [hz]) (fun z hz => by simp [hz]) hd
        refine StepR.pure h (av := .str ((s.drop (loN l)).take (hiN s.length hb - loN l))) (start hs (fun z hz => by simp [hz]) ?_) ?_ hk
        · refine Does.bind (b1 _ (Nat.le_refl _)) (Does.bind b2 ?_)
          exact Does.ret _
        · rw [← cutT_eq s b3 b5 b6]; exact RT.str _
      · cases hd
    · -- a list that is only read
      rename_i t xs ds ex
      rw [ex] at hx
      obtain ⟨a, ha, hx⟩ := hx
      have ha' : x.val σ = a := by simpa using ha
      split at hd
      · rename_i he
        obtain ⟨rfl, he0⟩ := he
        obtain ⟨hk, b1, b2, b3, b4, b5, b6⟩ := bounds_ok h (K := x.keys ++ bKeys lo ++ bKeys hi ++ bKeys none ++ oKeys ds) e1 e2 (fun z hz => by simp [hz]) (fun z hz => by simp [hz]) hd
        have hcut := cutT_eq xs b3 b5 b6
        have hne : (t.width != 0) = true := by simpa using he0
        rcases hx with rfl | ⟨rfl, rfl⟩ | ⟨s, hs, st, c, l0, ln, ys, g1, g2, g3, g4, rfl⟩
        · refine StepR.pure h (av := .sl t.width (((xs.map t.enc).drop (loN l)).take (hiN xs.length hb - loN l))) (start ha' (fun z hz => by simp [hz]) ?_) ?_ hk
          · simp only [List.length_map]
            refine Does.bind (a := xs.length) (Does.ret _) (Does.bind (b1 _ (Nat.le_refl _)) (Does.bind b2 ?_))
            simp only [beq_self_eq_true, hne, Bool.and_self, if_true]
            exact Does.ret _
          · exact ⟨_, rfl, .inl (by rw [hcut, List.map_take, List.map_drop])⟩
        · refine StepR.pure h (av := .nil) (start ha' (fun z hz => by simp [hz]) ?_) ?_ hk
          · refine Does.bind (a := 0) (Does.ret _) (Does.bind (b1 _ (Nat.le_refl _)) (Does.bind b2 ?_))
            have : (t.width == 0) = false := by simpa using he0
            simp only [this, Bool.false_eq_true, if_false]
            exact Does.ret _
          · exact ⟨_, rfl, .inr (.inl ⟨by rw [hcut]; simp, rfl⟩)⟩
        · have hln : ln = xs.length := by
            have := congrArg List.length g4
            simp at this; omega
          subst hln
          refine StepR.pure h (av := .sref s st (l0 + loN l) (hiN xs.length hb - loN l)) (start ha' (fun z hz => by simp [hz]) ?_) ?_ hk
          · refine Does.bind (Does.theObj (List.mem_append_right _ (oKeys_o hs)) g1) ?_
            simp only [beq_self_eq_true, hne, Bool.not_false, Bool.and_self, decide_eq_true g3, if_true]
            refine Does.bind (b1 _ (by omega)) (Does.bind b2 ?_)
            rw [if_pos b4]
            exact Does.ret _
          · refine ⟨_, rfl, .inr (.inr ⟨s, hs, st, c, l0 + loN l, _, ys, g1, g2, by omega, ?_, rfl⟩)⟩
            rw [hcut, List.map_take, List.map_drop, ← g4, List.drop_take, List.drop_drop, List.take_take]
            congr 1
            omega
      · cases hd
    · -- nil
      rename_i ex
      have hs : x.val σ = .nil := by
        rw [ex] at hx
        have : [x.val σ] = [AV.nil] := hx
        simpa using this
      split at hd
      · rename_i he0
        obtain ⟨hk, b1, b2, b3, b4, b5, b6⟩ := bounds_ok h (len := 0) (K := x.keys ++ bKeys lo ++ bKeys hi ++ bKeys none) e1 e2 (fun z hz => by simp [hz]) (fun z hz => by simp [hz]) hd
        refine StepR.pure h (av := .nil) (start hs (fun z hz => by simp [hz]) ?_) (by exact rfl) hk
        refine Does.bind (a := 0) (Does.ret _) (Does.bind (b1 _ (Nat.le_refl _)) (Does.bind b2 ?_))
        have : (e == 0) = false := by simpa using he0
        simp only [this, Bool.false_eq_true, if_false]
        exact Does.ret _
      · cases hd
    · -- an own list
      rename_i d w mn ex
      have hx0 := hx
      rw [ex] at hx
      obtain ⟨a, ha, t, xs, cap, fz, s1, ho, hx⟩ := hx
      have ha' : x.val σ = a := by simpa using ha
      rw [ho] at hd
      simp only at hd
      split at hd
      · rename_i he
        obtain ⟨rfl, he0⟩ := he
        have hne : (t.width != 0) = true := by simpa using he0
        have hne' : (t.width == 0) = false := by simpa using he0
        split at hd
        · -- what lies behind
          split at hd
          · rename_i c ll l' hh h'
            obtain ⟨⟨g1, g2, g3⟩, hk⟩ := Tree.den_req hd
            simp only at g1
            rcases hx with ⟨⟨⟨st, c', k1, k2, k3⟩, k4⟩, hw⟩ | ⟨hm, _⟩
            · simp only at hw
              subst hw
              have hc := k3 c rfl
              subst hc
              obtain ⟨_, p2⟩ := (bound_ok h e2 (K := x.keys ++ bKeys lo ++ bKeys hi ++ bKeys none ++ τ.ks d) (fun z hz => by simp [hz]) c' xs.length).2 hh h' rfl
              obtain ⟨_, q2⟩ := (bound_ok h e1 (K := x.keys ++ bKeys lo ++ bKeys hi ++ bKeys none ++ τ.ks d) (fun z hz => by simp [hz]) h'.toNat 0).2 ll l' rfl
              refine StepR.pure h (av := .spare (m d) (σ.getO (m d)).st l'.toNat (h'.toNat - l'.toNat)) (start ha' (fun z hz => by simp [hz]) ?_) (by exact ⟨t, xs, some c', fz, s1, _, _, ho, ⟨⟨st, c', k1, k2, k3⟩, k4⟩, by omega, rfl⟩) hk
              rw [k1]
              refine Does.bind (Does.theObj (List.mem_append_right _ (h.key_o ho)) k1) ?_
              simp only [beq_self_eq_true, hne, Bool.not_false, Bool.and_self, Nat.zero_add, List.length_map, Nat.le_refl, decide_true, if_true, Nat.sub_zero]
              refine Does.bind (p2 (by omega) g3) (Does.bind (q2 (by omega) (by omega)) ?_)
              rw [if_neg (by omega), if_pos (by omega)]
              exact Does.ret _
            · cases hm
          · cases hd
        · split at hd
          · -- all of it
            have b1 := fun lim => (bound_ok h e2 (K := x.keys ++ bKeys lo ++ bKeys hi ++ bKeys none ++ τ.ks d) (fun z hz => by simp [hz]) lim)
            have b2 := fun lim => (bound_ok h e1 (K := x.keys ++ bKeys lo ++ bKeys hi ++ bKeys none ++ τ.ks d) (fun z hz => by simp [hz]) lim 0)
            refine StepR.pure h (av := a) (start ha' (fun z hz => by simp [hz]) ?_) (by rw [← ha']; exact hx0) hd
            rcases hx with ⟨⟨⟨st, c', k1, k2, k3⟩, k4⟩, hw⟩ | ⟨hm, rfl, rfl, _⟩
            · have hw' : ∃ l0 n, l0 + n ≤ xs.length ∧ a = .sref (m d) st l0 n := by
                cases w with
                | none => exact ⟨0, xs.length, by omega, by simp only at hw; rw [hw, k1]⟩
                | some p => exact ⟨p.1, p.2, hw.1, by rw [hw.2, k1]⟩
              obtain ⟨l0, n, hle, rfl⟩ := hw'
              refine Does.bind (Does.theObj (List.mem_append_right _ (h.key_o ho)) k1) ?_
              simp only [beq_self_eq_true, hne, Bool.not_false, Bool.and_self, List.length_map, decide_eq_true hle, if_true]
              refine Does.bind ((b1 _ n).1 rfl) (Does.bind ((b2 _).1 rfl) ?_)
              rw [if_pos (Nat.le_refl _)]
              simp only [Nat.add_zero, Nat.sub_zero]
              exact Does.ret _
            · refine Does.bind (a := 0) (Does.ret _) (Does.bind ((b1 _ 0).1 rfl) (Does.bind ((b2 _).1 rfl) ?_))
              simp only [hne', Bool.false_eq_true, if_false]
              exact Does.ret _
          · -- a part
            rename_i hnn
            have hgen : ∀ (n l0 : Nat), (withBounds (n : Int) l hb (k (.c (.own d (some (l0 + loN l, hiN n hb - loN l)) mn)) τ (x.keys ++ bKeys lo ++ bKeys hi ++ bKeys none ++ τ.ks d) [])).den = some r →
                ((SlR σ (m d) t xs cap fz ∧ l0 + n ≤ xs.length ∧ a = .sref (m d) (σ.getO (m d)).st l0 n) ∨ (mn = true ∧ a = .nil ∧ xs = [] ∧ n = 0 ∧ l0 = 0)) → StepR orc (.slice t.width x lo hi none) dst σ k r := by
              intro n l0 hd hcase
              obtain ⟨hk, b1, b2, b3, b4, b5, b6⟩ := bounds_ok h (K := x.keys ++ bKeys lo ++ bKeys hi ++ bKeys none ++ τ.ks d) e1 e2 (fun z hz => by simp [hz]) (fun z hz => by simp [hz]) hd
              rcases hcase with ⟨hsl, hle, rfl⟩ | ⟨rfl, rfl, rfl, rfl, rfl⟩
              · obtain ⟨⟨st, c', k1, k2, k3⟩, k4⟩ := hsl
                refine StepR.pure h (av := .sref (m d) (σ.getO (m d)).st (l0 + loN l) (hiN n hb - loN l)) (start ha' (fun z hz => by simp [hz]) ?_)
                  (by exact ⟨_, rfl, t, xs, cap, fz, s1, ho, .inl ⟨⟨⟨st, c', k1, k2, k3⟩, k4⟩, by omega, rfl⟩⟩) hk
                rw [k1]
                refine Does.bind (Does.theObj (List.mem_append_right _ (h.key_o ho)) k1) ?_
                simp only [beq_self_eq_true, hne, Bool.not_false, Bool.and_self, List.length_map, decide_eq_true hle, if_true]
                refine Does.bind (b1 _ (by omega)) (Does.bind b2 ?_)
                rw [if_pos b4]
                exact Does.ret _
              · refine StepR.pure h (av := .nil) (start ha' (fun z hz => by simp [hz]) ?_) ?_ hk
                · refine Does.bind (a := 0) (Does.ret _) (Does.bind (b1 _ (Nat.le_refl _)) (Does.bind b2 ?_))
                  simp only [hne', Bool.false_eq_true, if_false]
                  exact Does.ret _
                · refine ⟨_, rfl, t, [], cap, fz, s1, ho, .inr ⟨rfl, rfl, rfl, fun lo' n' e => ?_⟩⟩
                  simp only [Option.some.injEq, Prod.mk.injEq] at e
                  omega
            cases w with
            | none =>
              refine hgen xs.length 0 hd ?_
              rcases hx with ⟨hsl, hw⟩ | ⟨h1, h2, rfl, _⟩
              · exact .inl ⟨hsl, by omega, hw⟩
              · exact .inr ⟨h1, h2, rfl, rfl, rfl⟩
            | some p =>
              obtain ⟨l0, n⟩ := p
              refine hgen n l0 hd ?_
              rcases hx with ⟨hsl, hw⟩ | ⟨h1, h2, rfl, hw⟩
              · exact .inl ⟨hsl, hw.1, hw.2⟩
              · obtain ⟨g1, g2⟩ := hw l0 n rfl
                exact .inr ⟨h1, h2, rfl, g2, g1⟩
      · cases hd
    · -- only looked at
      rename_i mm d mn ex
      rw [ex] at hx
      obtain ⟨a, ha, t, xs, cap, fz, s1, ho, hx⟩ := hx
      have ha' : x.val σ = a := by simpa using ha
      split at hd
      · rename_i t' xs' cap' fz' s1' ml m0 hl h0 ho' em
        rw [ho] at ho'
        simp only [Option.some.injEq, TO.sl.injEq] at ho'
        obtain ⟨rfl, hxs, rfl, rfl, rfl⟩ := ho'
        cases hxs
        split at hd
        · rename_i he
          obtain ⟨rfl, he0⟩ := he
          have hne : (t.width != 0) = true := by simpa using he0
          have hne' : (t.width == 0) = false := by simpa using he0
          obtain ⟨⟨g1, g2, g3, g4, g5⟩, hk⟩ := Tree.den_req hd
          obtain ⟨_, p2⟩ := (bound_ok h em (K := x.keys ++ bKeys lo ++ bKeys hi ++ bKeys (some mm) ++ τ.ks d) (fun z hz => by simp only [List.mem_append]; exact .inl (.inr hz)) xs.length xs.length).2 ml m0 rfl
          obtain ⟨_, q2⟩ := (bound_ok h e2 (K := x.keys ++ bKeys lo ++ bKeys hi ++ bKeys (some mm) ++ τ.ks d) (fun z hz => by simp [hz]) m0.toNat xs.length).2 hl h0 rfl
          have lo2 : ∃ n, Does (bound h0.toNat 0 lo) σ n (x.keys ++ bKeys lo ++ bKeys hi ++ bKeys (some mm) ++ τ.ks d) := by
            cases l with
            | none => exact ⟨_, (bound_ok h e1 (fun z hz => by simp [hz]) h0.toNat 0).1 rfl⟩
            | some p =>
              obtain ⟨ll, n⟩ := p
              simp only [loN] at g1 g2 g5
              exact ⟨_, ((bound_ok h e1 (fun z hz => by simp [hz]) h0.toNat 0).2 ll n rfl).2 g5 (by omega)⟩
          obtain ⟨n, lo2⟩ := lo2
          rcases hx with ⟨⟨⟨st, c', k1, k2, k3⟩, k4⟩, hw⟩ | ⟨hm, rfl, rfl, _⟩
          · simp only at hw
            subst hw
            refine StepR.pure h (av := .any) (start ha' (fun z hz => by simp [hz]) ?_) (by exact rfl) hk
            rw [k1]
            refine Does.bind (Does.theObj (List.mem_append_right _ (h.key_o ho)) k1) ?_
            simp only [beq_self_eq_true, hne, Bool.not_false, Bool.and_self, Nat.zero_add, List.length_map, Nat.le_refl, decide_true, if_true]
            exact Does.bind (p2 (by omega) g4) (Does.bind (q2 (by omega) (by omega)) (Does.bind lo2 (Does.ret _)))
          · refine StepR.pure h (av := .nil) (start ha' (fun z hz => by simp [hz]) ?_) (by exact rfl) hk
            refine Does.bind (p2 (by omega) g4) (Does.bind (q2 (by omega) (by omega)) (Does.bind lo2 ?_))
            simp only [hne', Bool.false_eq_true, if_false]
            exact Does.ret _
        · cases hd
      · cases hd
    · cases hd
  · cases hd

/-! ### Structs -/
theorem repl_eq : ∀ (vs cs : List AV) (off : Nat), off + vs.length ≤ cs.length → repl cs off vs = cs.take off ++ vs ++ cs.drop (off + vs.length)
  | [], cs, off, h => by simp [repl]
  | v :: vs, cs, off, h => by
    simp only [List.length_cons] at h
    simp only [repl]
    rw [repl_eq vs _ _ (by simp; omega)]
    apply List.ext_getElem?
    intro i
    have hl : off < cs.length := by omega
    simp only [List.length_cons, List.getElem?_append, List.length_append, List.length_take, List.length_set, List.getElem?_take, List.getElem?_drop, List.getElem?_set, List.getElem?_cons]
    repeat' split
    all_goals first | rfl | omega | (congr 1; omega) | (simp_all; done) | skip
    all_goals (first | (exfalso; omega) | (simp_all; omega) | skip)
end
end Go.Vm
