/- A machine of abstract values and a typed machine above it, both proved sound for any program: part 5. -/
import Derived.Test.YtjfiohdaeahdmaaV4
import Derived.Carry
import Derived.OpenShut
import Derived.ChangeArms
import Derived.WideShapes
import Derived.WalkKit
import Derived.ProofKit
import Derived.SizedLaws
set_option linter.unusedVariables false
/- Where ways meet: the whole state told anew. -/
namespace Go.Vm
section
variable {τ τ' : TState} {σ : State} {m m' : Nat → Slot} {r : Ren} {ob : List (Nat × List Slot × JO)}

/-- Cell by cell. -/
inductive Told (τ τ' : TState) (σ : State) (m m' : Nat → Slot) : List TC → List TC → Prop
  | nil : Told τ τ' σ m m' [] []
  | cons {c c' : TC} {cs cs' : List TC} : (∀ as, RC τ σ m c as → RC τ' σ m' c' as) → Told τ τ' σ m m' cs cs' → Told τ τ' σ m m' (c :: cs) (c' :: cs')
theorem Told.rcs {cs cs' : List TC} (h : Told τ τ' σ m m' cs cs') : ∀ {as : List AV}, RCs τ σ m cs as → RCs τ' σ m' cs' as := by
  induction h with
  | nil => intro as h; exact h
  | cons h _ ih => rintro as ⟨p, q, h1, h2, h3⟩; exact ⟨p, q, h1, h _ h2, ih h3⟩
theorem Told.length {cs cs' : List TC} (h : Told τ τ' σ m m' cs cs') : cs'.length = cs.length := by
  induction h with
  | nil => rfl
  | cons _ _ ih => simp [ih]
theorem Told.get {cs cs' : List TC} (h : Told τ τ' σ m m' cs cs') : ∀ {j : Nat} {c' : TC}, cs'[j]? = some c' → ∃ c, cs[j]? = some c ∧ ∀ as, RC τ σ m c as → RC τ' σ m' c' as := by
  induction h with
  | nil => intro j c' h; simp at h
  | @cons c c' cs cs' h _ ih =>
    intro j x hx
    cases j with
    | zero => simp only [List.getElem?_cons_zero, Option.some.injEq] at hx; subst hx; exact ⟨c, rfl, h⟩
    | succ j => simp only [List.getElem?_cons_succ] at hx ⊢; exact ih hx

theorem cells_ok' (hO : ObR τ τ' m m' r ob) (hat : ∀ d, τ.getO d ≠ none → m d ∈ τ.at_ d) : ∀ {ks : List JK} {cs cs' : List TC} {p rest rest' : List DP}, dumpL τ r ks cs = some p → fillL' ks (p ++ rest) = some (cs', rest') → ks.all (JK.ok ob) = true →
    rest' = rest ∧ Told τ τ' σ m m' cs cs' ∧ cs'.length = ks.length
  | [], [], cs', p, rest, rest', hd, hf, _ => by
    simp only [dumpL] at hd; cases hd
    simp only [List.nil_append, fillL'] at hf; cases hf
    exact ⟨rfl, .nil, rfl⟩
  | [], _ :: _, _, _, _, _, hd, _, _ => by simp [dumpL] at hd
  | _ :: _, [], _, _, _, _, hd, _, _ => by simp [dumpL] at hd
  | k :: ks, c :: cs, cs', p, rest, rest', hd, hf, hk => by
    simp only [List.all_cons, Bool.and_eq_true] at hk
    simp only [dumpL] at hd
    split at hd
    · rename_i a b e1 e2
      cases hd
      simp only [fillL'] at hf
      rw [List.append_assoc] at hf
      split at hf
      · rename_i c1 r1 f1
        split at hf
        · rename_i cs1 q1 f2
          cases hf
          obtain ⟨rfl, h1⟩ := cell_ok (σ := σ) hO hat e1 f1 hk.1
          obtain ⟨rfl, h2, h3⟩ := cells_ok' hO hat e2 f2 hk.2
          exact ⟨rfl, .cons h1 h2, by simp [h3]⟩
        · cases hf
      · cases hf
    · cases hd

theorem tv_ok (hO : ObR τ τ' m m' r ob) (hat : ∀ d, τ.getO d ≠ none → m d ∈ τ.at_ d) {k : JT} {v v' : TV} {p rest rest' : List DP} (hd : k.dump τ r v = some p) (hf : k.fill (p ++ rest) = some (v', rest')) (hk : k.ok ob = true) :
    rest' = rest ∧ ∀ a, RT τ σ m v a → RT τ' σ m' v' a := by
  unfold JT.dump at hd
  split at hd
  · cases hd
    simp only [List.nil_append, JT.fill, JK.fill, Option.map_some] at hf
    cases hf
    exact ⟨rfl, fun a _ => rfl⟩
  · rename_i k x _
    simp only [JT.fill, Option.map_eq_some_iff] at hf
    obtain ⟨q, hf, e⟩ := hf
    cases e
    obtain ⟨h1, h2⟩ := cell_ok (σ := σ) (c' := q.1) (rest' := q.2) hO hat hd hf hk
    exact ⟨h1, fun a h => h2 _ h⟩
  · rename_i ks cs
    split at hd
    · rename_i cs1 ew
      simp only [JT.fill, Option.map_eq_some_iff] at hf
      obtain ⟨q, hf, e⟩ := hf
      cases e
      obtain ⟨h1, h2, _⟩ := cells_ok' (σ := σ) (cs' := q.1) (rest' := q.2) hO hat hd hf hk
      refine ⟨h1, fun a h => ?_⟩
      obtain ⟨as, rfl, h⟩ := h
      exact ⟨as, rfl, h2.rcs (fitW_ok ew h)⟩
    · cases hd
  · rename_i g a b g' a' b'
    split at hd
    · rename_i hg
      subst hg
      split at hd
      · rename_i x y e1 e2
        cases hd
        simp only [JT.ok, Bool.and_eq_true] at hk
        simp only [JT.fill] at hf
        rw [List.append_assoc] at hf
        split at hf
        · rename_i x1 r1 f1
          split at hf
          · rename_i y1 q1 f2
            cases hf
            obtain ⟨rfl, h1, l1⟩ := cells_ok' (σ := σ) hO hat e1 f1 hk.1
            obtain ⟨rfl, h2, l2⟩ := cells_ok' (σ := σ) hO hat e2 f2 hk.2
            refine ⟨rfl, fun v h => ?_⟩
            obtain ⟨u, w, rfl, g1, g2, g3, g4⟩ := h
            refine ⟨u, w, rfl, by rw [h1.length, g1], by rw [h2.length, g2], fun j c z hc hz => ?_, fun j c z hc hz => ?_⟩
            · obtain ⟨c0, k1, k2⟩ := h1.get hc
              exact k2 _ (g3 j c0 z k1 hz)
            · obtain ⟨c0, k1, k2⟩ := h2.get hc
              exact k2 _ (g4 j c0 z k1 hz)
          · cases hf
        · cases hf
      · cases hd
    · cases hd
  · cases hd

theorem fillT_ok (hO : ObR τ τ' m m' r ob) (hat : ∀ d, τ.getO d ≠ none → m d ∈ τ.at_ d) (hT : ∀ n, RT τ σ m (τ.getT n) (σ.getT n)) : ∀ {js : List (Nat × JT)} {tm tm' : List TV} {p rest rest' : List DP}, dumpT τ r js = some p → fillT js tm (p ++ rest) = some (tm', rest') → (js.all fun q => q.2.ok ob) = true →
    (∀ n, RT τ' σ m' (tm.getD n (.c .any)) (σ.getT n)) → rest' = rest ∧ tm'.length = tm.length ∧ ∀ n, RT τ' σ m' (tm'.getD n (.c .any)) (σ.getT n)
  | [], tm, tm', p, rest, rest', hd, hf, _, h => by
    simp only [dumpT] at hd; cases hd
    simp only [List.nil_append, fillT] at hf; cases hf
    exact ⟨rfl, rfl, h⟩
  | (n, k) :: js, tm, tm', p, rest, rest', hd, hf, hk, h => by
    simp only [List.all_cons, Bool.and_eq_true] at hk
    simp only [dumpT] at hd
    split at hd
    · rename_i a b e1 e2
      cases hd
      simp only [fillT] at hf
      rw [List.append_assoc] at hf
      split at hf
      · rename_i v q f1
        obtain ⟨rfl, h1⟩ := tv_ok (σ := σ) hO hat e1 f1 hk.1
        obtain ⟨h2, h3, h4⟩ := fillT_ok hO hat hT e2 hf hk.2 (fun i => by
          simp only [List.getD_eq_getElem?_getD, List.getElem?_set]
          by_cases hi : n = i
          · subst hi
            by_cases hl : n < tm.length
            · simp only [hl, if_true, Option.getD_some]
              exact h1 _ (hT n)
            · simp only [hl, if_true, if_false, Option.getD_none]
              exact rfl
          · simp only [hi, if_false]
            have := h i
            rwa [List.getD_eq_getElem?_getD] at this)
        exact ⟨h2, by rw [h3, List.length_set], h4⟩
      · cases hf
    · cases hd

/-- One object. -/
def TrO (τ : TState) (r : Ren) (ob : List (Nat × List Slot × JO)) (p : Nat × List Slot × JO) (o : TO) : Prop := match r.lookup p.1 with
  | some d' => (∀ s ∈ τ.at_ d', s ∈ p.2.1) ∧ (match p.2.2 with
    | .sl e fz s1 => ∃ l cap fz' s1', τ.getO d' = some (.sl e l cap fz' s1') ∧ (fz' = true → fz = true) ∧ (s1 = true → s1' = true) ∧ o = .sl e l none fz s1
    | .var a ks fz s1 => ∃ cs fz' s1' cs1 cs2 q rest, τ.getO d' = some (.var a cs fz' s1') ∧ (fz' = true → fz = true) ∧ (s1 = true → s1' = true) ∧ fitW ks cs = some cs1 ∧ dumpL τ r ks cs1 = some q ∧ fillL' ks (q ++ rest) = some (cs2, rest) ∧ o = .var a cs2 fz s1
    | .gone => τ.getO d' = some .gone ∧ o = .gone)
  | none => ∃ e fz, p.2.2 = .sl e fz false ∧ o = .sl e [] none fz false

theorem fillK_rest : ∀ {ks : List JK} {cs : List TC} {cs' : List TC} {p rest rest' : List DP}, dumpL τ r ks cs = some p → fillL' ks (p ++ rest) = some (cs', rest') → rest' = rest
  | [], [], cs', p, rest, rest', hd, hf => by
    simp only [dumpL] at hd; cases hd
    simp only [List.nil_append, fillL'] at hf; cases hf; rfl
  | [], _ :: _, _, _, _, _, hd, _ => by simp [dumpL] at hd
  | _ :: _, [], _, _, _, _, hd, _ => by simp [dumpL] at hd
  | k :: ks, c :: cs, cs', p, rest, rest', hd, hf => by
    simp only [dumpL] at hd
    split at hd
    · rename_i a b e1 e2
      cases hd
      simp only [fillL'] at hf
      rw [List.append_assoc] at hf
      split at hf
      · rename_i c1 r1 f1
        split at hf
        · rename_i cs1 q1 f2
          cases hf
          have : r1 = b ++ rest := fillOne e1 f1
          subst this
          exact fillK_rest e2 f2
        · cases hf
      · cases hf
    · cases hd
  where
  fillOne {k : JK} {c c' : TC} {p rest rest' : List DP} (hd : k.dump τ r c = some p) (hf : k.fill (p ++ rest) = some (c', rest')) : rest' = rest := by
    unfold JK.dump at hd
    split at hd
    · split at hd
      · cases hd; simp only [List.nil_append, JK.fill] at hf; cases hf; rfl
      · cases hd
    · split at hd
      · cases hd
        simp only [List.cons_append, List.nil_append, JK.fill] at hf
        split at hf <;> first | (cases hf; done) | (cases hf; rfl)
      · cases hd
    · cases hd
      simp only [List.cons_append, List.nil_append, JK.fill, if_true] at hf
      cases hf; rfl
    · split at hd
      · cases hd; simp only [List.nil_append, JK.fill] at hf; cases hf; rfl
      · cases hd
    · cases hd; simp only [List.nil_append, JK.fill] at hf; cases hf; rfl
    · split at hd
      · cases hd
        simp only [dpl, List.cons_append, List.nil_append, JK.fill] at hf
        split at hf <;> first | (cases hf; done) | (cases hf; rfl)
      · cases hd
    · cases hd
      simp only [dpl, List.cons_append, List.nil_append, JK.fill, if_true] at hf
      cases hf; rfl
    · split at hd
      · split at hd
        · split at hd
          · split at hd <;>
            · cases hd
              simp only [dpl, List.cons_append, List.nil_append, JK.fill] at hf
              split at hf <;> first | (cases hf; done) | (cases hf; rfl)
          · cases hd
        · cases hd
      · cases hd
    · split at hd
      · cases hd; simp only [List.nil_append, JK.fill] at hf; cases hf; rfl
      · cases hd
    · split at hd
      · cases hd; simp only [List.nil_append, JK.fill] at hf; cases hf; rfl
      · cases hd
    · split at hd
      · cases hd; simp only [dpn, List.cons_append, List.nil_append, JK.fill] at hf; cases hf; rfl
      · cases hd
    · split at hd
      · split at hd
        · cases hd; simp only [dpn, List.cons_append, List.nil_append, JK.fill] at hf; cases hf; rfl
        · cases hd
      · cases hd
    · split at hd
      · cases hd; simp only [List.nil_append, JK.fill] at hf; cases hf; rfl
      · cases hd
    · split at hd
      · cases hd; simp only [List.nil_append, JK.fill] at hf; cases hf; rfl
      · cases hd
    · split at hd
      · cases hd; simp only [dpn, List.cons_append, List.nil_append, JK.fill] at hf; cases hf; rfl
      · cases hd
    · split at hd
      · cases hd
        simp only [List.cons_append, List.nil_append, JK.fill] at hf
        split at hf <;> first | (cases hf; done) | (cases hf; rfl)
      · cases hd
    · cases hd

theorem fillO_ok : ∀ {js : List (Nat × List Slot × JO)} {os : List (Nat × List Slot × TO)} {p rest rest' : List DP}, dumpO τ r js = some p → fillO js (p ++ rest) = some (os, rest') →
    rest' = rest ∧ os.map (fun q => (q.1, q.2.1)) = js.map (fun q => (q.1, q.2.1)) ∧ ∀ (j : Nat) (q : Nat × List Slot × JO), js[j]? = some q → ∃ o, os[j]? = some (q.1, q.2.1, o) ∧ TrO τ r ob q o
  | [], os, p, rest, rest', hd, hf => by
    simp only [dumpO] at hd; cases hd
    simp only [List.nil_append, fillO] at hf; cases hf
    exact ⟨rfl, rfl, by simp⟩
  | (d, ss, k) :: js, os, p, rest, rest', hd, hf => by
    simp only [dumpO] at hd
    split at hd
    · rename_i a b e1 e2
      cases hd
      simp only [fillO] at hf
      rw [List.append_assoc] at hf
      split at hf
      · rename_i o q f1
        split at hf
        · rename_i os1 z f2
          cases hf
          have one : q = b ++ rest ∧ TrO τ r ob (d, ss, k) o := by
            unfold TrO
            simp only
            split at e1
            · rename_i d' el
              simp only [el]
              split at e1
              · rename_i hh
                simp only [Bool.and_eq_true] at hh
                cases ho : τ.getO d' with
                | none => rw [ho] at hh; cases hh.2
                | some o0 =>
                  rw [ho] at e1
                  cases k with
                  | sl e fz s1 =>
                    cases o0 with
                    | sl e' l cap fz' s1' =>
                      simp only [JO.dump] at e1
                      split at e1
                      · rename_i h2
                        obtain ⟨rfl, h3, h4⟩ := h2
                        cases e1
                        simp only [dpl, List.cons_append, List.nil_append, JO.fill, if_true] at f1
                        cases f1
                        exact ⟨rfl, all_sub hh.1, l, cap, fz', s1', rfl, h3, h4, rfl⟩
                      · cases e1
                    | var => cases e1
                    | gone => cases e1
                  | var a ks fz s1 =>
                    cases o0 with
                    | sl => cases e1
                    | gone => cases e1
                    | var a' cs fz' s1' =>
                      simp only [JO.dump] at e1
                      split at e1
                      · rename_i h2
                        obtain ⟨rfl, h3, h4⟩ := h2
                        split at e1
                        · rename_i cs1 ew
                          simp only [JO.fill, Option.map_eq_some_iff] at f1
                          obtain ⟨⟨cs2, q2⟩, f1, f3⟩ := f1
                          cases f3
                          have := fillK_rest e1 f1
                          subst this
                          exact ⟨rfl, all_sub hh.1, cs, fz', s1', cs1, cs2, _, _, rfl, h3, h4, ew, e1, f1, rfl⟩
                        · cases e1
                      · cases e1
                  | gone =>
                    cases o0 with
                    | sl => cases e1
                    | var => cases e1
                    | gone =>
                      simp only [JO.dump] at e1
                      cases e1
                      simp only [List.nil_append, JO.fill] at f1
                      cases f1
                      exact ⟨rfl, all_sub hh.1, rfl, rfl⟩
              · cases e1
            · rename_i el
              simp only [el]
              cases k with
              | sl e fz s1 =>
                cases s1 with
                | true => cases e1
                | false =>
                  simp only [JO.dump] at e1
                  cases e1
                  simp only [dpl, List.cons_append, List.nil_append, JO.fill, if_true] at f1
                  cases f1
                  exact ⟨rfl, e, fz, rfl, rfl⟩
              | var => cases e1
              | gone => cases e1
          obtain ⟨rfl, h1⟩ := one
          obtain ⟨rfl, h2, h3⟩ := fillO_ok e2 f2
          refine ⟨rfl, by simp only [List.map_cons, h2], fun j q hq => ?_⟩
          cases j with
          | zero =>
            simp only [List.getElem?_cons_zero, Option.some.injEq] at hq
            subst hq
            exact ⟨o, rfl, h1⟩
          | succ j =>
            simp only [List.getElem?_cons_succ] at hq ⊢
            exact h3 j q hq
        · cases hf
      · cases hf
    · cases hd
end
end Go.Vm
/- Where ways meet: the relation. -/
namespace Go.Vm
section
variable {τ τ' : TState} {σ : State} {m : Nat → Slot}

theorem Rel.repack (h : Rel m τ σ) {A : Ann} {x : pd A.pts} (hp : A.pack τ = some x) (hu : A.unpack x = some τ') : ∃ m', Rel m' τ' σ := by
  unfold Ann.pack at hp
  split at hp
  · cases hp
  · rename_i r0 er0
    split at hp
    · cases hp
    · rename_i r er
      have hr : RenOK r := renO_ok (renT_ok (fun _ _ _ h => by simp at h) er0) er
      split at hp
      · rename_i a b ea eb
        split at hp
        · rename_i hh
          obtain ⟨hnt, hnd, hok, hfr⟩ := hh
          have hnd' := nodupN_spec hnd
          unfold Ann.unpack at hu
          rw [pd.to_of hp] at hu
          split at hu
          · rename_i os l eo
            split at hu
            · rename_i tm et
              cases hu
              obtain ⟨rfl, hos, hix⟩ := fillO_ok (ob := A.ob) ea eo
              obtain ⟨f, f1, f2⟩ := freeS_ok hfr hnd'
              simp only [Ann.ok, Bool.and_eq_true] at hok
              have hosn : (os.map (·.1)).Nodup := by
                have : os.map (·.1) = A.ob.map (·.1) := by
                  have := congrArg (List.map (·.1)) hos
                  simpa [List.map_map, Function.comp_def] using this
                rw [this]; exact hnd'
              have hlook : ∀ q ∈ A.ob, ∃ o, lookT q.1 os = some (q.2.1, o) ∧ TrO τ r A.ob q o := by
                intro q hq
                obtain ⟨j, hj, e⟩ := List.mem_iff_getElem.1 hq
                obtain ⟨o, h1, h2⟩ := hix j q (by rw [List.getElem?_eq_getElem hj, e])
                exact ⟨o, lookT_of_mem hosn (List.mem_of_getElem? h1), h2⟩
              generalize hτ' : (⟨tm, os, []⟩ : TState) = τ'
              have hg : ∀ d, τ'.getO d = (lookT d os).map (·.2) := fun d => by rw [← hτ']; rfl
              have ha : ∀ d, τ'.at_ d = ((lookT d os).map (·.1)).getD [] := fun d => by rw [← hτ']; rfl
              let m' : Nat → Slot := fun d => match r.lookup d with
                | some d' => m d'
                | none => f d
              have hm1 : ∀ d d', r.lookup d = some d' → m' d = m d' := fun d d' e => by simp only [m', e]
              have hm2 : ∀ d, r.lookup d = none → m' d = f d := fun d e => by simp only [m', e]
              have hat := h.at_
              have hO : ObR τ τ' m m' r A.ob := by
                refine ⟨fun d ss e fz s1 hq => ?_, fun d ss a ks fz s1 hq d' hl => ?_⟩
                · obtain ⟨o, h1, h2⟩ := hlook _ hq
                  have h3 : τ'.getO d = some o := by rw [hg]; simp only at h1; rw [h1]; rfl
                  unfold TrO at h2
                  simp only at h2
                  refine ⟨fun d' hl => ?_, fun hl => ?_⟩
                  · rw [hl] at h2
                    obtain ⟨_, l, cap, fz', s1', g1, g2, g3, rfl⟩ := h2
                    exact ⟨l, cap, fz', s1', g1, h3, g2, hm1 d d' hl⟩
                  · rw [hl] at h2
                    obtain ⟨e', fz', g1, rfl⟩ := h2
                    cases g1
                    exact h3
                · obtain ⟨o, h1, h2⟩ := hlook _ hq
                  have h3 : τ'.getO d = some o := by rw [hg]; simp only at h1; rw [h1]; rfl
                  unfold TrO at h2
                  simp only [hl] at h2
                  obtain ⟨_, cs, fz', s1', cs1, cs2, q, rest, _, _, _, _, _, _, rfl⟩ := h2
                  exact ⟨⟨_, _, _, _, h3⟩, hm1 d d' hl⟩
              have hnames : ∀ d, τ'.getO d ≠ none → ∃ q ∈ A.ob, q.1 = d := by
                intro d hd
                rw [hg] at hd
                cases e : lookT d os with
                | none => rw [e] at hd; exact absurd rfl hd
                | some p =>
                  have hm := lookT_mem e
                  have : (d, p.1) ∈ os.map (fun q => (q.1, q.2.1)) := List.mem_map.2 ⟨_, hm, rfl⟩
                  rw [hos] at this
                  obtain ⟨q, hq, e⟩ := List.mem_map.1 this
                  simp only [Prod.mk.injEq] at e
                  exact ⟨q, hq, e.1⟩
              have hren : ∀ q ∈ A.ob, ∀ d', r.lookup q.1 = some d' → τ.getO d' ≠ none ∧ ∀ s ∈ τ.at_ d', s ∈ q.2.1 := by
                intro q hq d' hl
                obtain ⟨o, _, h2⟩ := hlook q hq
                unfold TrO at h2
                simp only [hl] at h2
                refine ⟨?_, h2.1⟩
                have h3 := h2.2
                split at h3
                · obtain ⟨_, _, _, _, g1, _⟩ := h3; rw [g1]; simp
                · obtain ⟨_, _, _, _, _, _, _, g1, _⟩ := h3; rw [g1]; simp
                · rw [h3.1]; simp
              have hused : ∀ q ∈ A.ob, ∀ d', r.lookup q.1 = some d' → ∀ s ∈ τ.at_ d', s ∈ A.ob.flatMap fun p => match r.lookup p.1 with
                  | some d' => τ.at_ d'
                  | none => [] := by
                intro q hq d' hl s hs
                refine List.mem_flatMap.2 ⟨q, hq, ?_⟩
                simp only [hl]; exact hs
              have hT := fillT_ok (m' := m') (τ' := τ') (tm := List.replicate A.nt (.c .any)) (p := l) (rest := []) hO hat h.tm eb (by rw [List.append_nil]; exact et) hok.1 (fun n => by
                have : (List.replicate A.nt (TV.c .any)).getD n (.c .any) = .c .any := by
                  rw [List.getD_eq_getElem?_getD, List.getElem?_replicate]
                  split <;> rfl
                rw [this]
                exact rfl)
              obtain ⟨_, t2, t3⟩ := hT
              refine ⟨m', ⟨?_, ?_, ?_, ?_, ?_⟩⟩
              · rw [← hτ', t2, List.length_replicate, hnt]; exact h.len
              · intro n
                have : τ'.getT n = tm.getD n (.c .any) := by rw [← hτ']; rfl
                rw [this]; exact t3 n
              · intro d d2 hne hd1 hd2
                obtain ⟨q1, hq1, rfl⟩ := hnames d hd1
                obtain ⟨q2, hq2, rfl⟩ := hnames d2 hd2
                cases e1 : r.lookup q1.1 with
                | some x1 =>
                  obtain ⟨g1, g2⟩ := hren q1 hq1 x1 e1
                  rw [hm1 _ _ e1]
                  cases e2 : r.lookup q2.1 with
                  | some x2 =>
                    obtain ⟨g3, g4⟩ := hren q2 hq2 x2 e2
                    rw [hm1 _ _ e2]
                    refine h.inj x1 x2 (fun e => hne ?_) g1 g3
                    subst e
                    exact hr _ _ _ e1 e2
                  | none =>
                    rw [hm2 _ e2]
                    intro e
                    exact (f1 q2 hq2 e2).2 (e ▸ hused q1 hq1 x1 e1 _ (hat x1 g1))
                | none =>
                  rw [hm2 _ e1]
                  cases e2 : r.lookup q2.1 with
                  | some x2 =>
                    obtain ⟨g3, g4⟩ := hren q2 hq2 x2 e2
                    rw [hm1 _ _ e2]
                    intro e
                    exact (f1 q1 hq1 e1).2 (e ▸ hused q2 hq2 x2 e2 _ (hat x2 g3))
                  | none =>
                    rw [hm2 _ e2]
                    exact f2 q1 hq1 q2 hq2 e1 e2 hne
              · intro d hd
                obtain ⟨q, hq, rfl⟩ := hnames d hd
                obtain ⟨o, h1, _⟩ := hlook q hq
                have : τ'.at_ q.1 = q.2.1 := by rw [ha, h1]; rfl
                rw [this]
                cases e : r.lookup q.1 with
                | some x1 =>
                  obtain ⟨g1, g2⟩ := hren q hq x1 e
                  rw [hm1 _ _ e]
                  exact g2 _ (hat x1 g1)
                | none => rw [hm2 _ e]; exact (f1 q hq e).1
              · intro d o ho
                obtain ⟨q, hq, rfl⟩ := hnames d (by rw [ho]; simp)
                obtain ⟨o', h1, h2⟩ := hlook q hq
                rw [hg, h1] at ho
                cases ho
                unfold TrO at h2
                cases e : r.lookup q.1 with
                | some x1 =>
                  rw [hm1 _ _ e]
                  simp only [e] at h2
                  have h3 := h2.2
                  have hqk := List.all_eq_true.1 hok.2 q hq
                  split at h3
                  · rename_i e2 fz2 s1 hk1
                    obtain ⟨l1, cap, fz', s1', g1, g2, g3, rfl⟩ := h3
                    have := h.ob x1 _ g1
                    refine ⟨this.1.imp (fun z => z.weak g2) (fun z => ⟨z.1, ?_⟩), fun z => this.2 (g3 z)⟩
                    cases s1 with
                    | false => rfl
                    | true => rw [g3 rfl] at z; cases z.2
                  · rename_i a ks fz s1 hk
                    obtain ⟨cs, fz', s1', cs1, cs2, qq, rest, g1, g2, g3, g4, g5, g6, rfl⟩ := h3
                    obtain ⟨⟨st, e0, c, x, k1, k2, k3⟩, k4, k5⟩ := h.ob x1 _ g1
                    rw [hk] at hqk
                    simp only [JO.ok, Bool.and_eq_true] at hqk
                    obtain ⟨_, u2, u3⟩ := cells_ok' (σ := σ) hO hat g5 g6 hqk.1
                    refine ⟨⟨st, e0, c, x, k1, ?_, k3⟩, fun z => k4 ?_, fun z => k5 (g3 z)⟩
                    · unfold RX at k2 ⊢
                      cases a with
                      | true =>
                        obtain ⟨as, e1, k2⟩ := k2
                        exact ⟨as, e1, u2.rcs (fitW_ok g4 k2)⟩
                      | false =>
                        simp only [Bool.false_eq_true, if_false] at k2 ⊢
                        refine ⟨List.length_eq_one_iff.1 ?_, u2.rcs (fitW_ok g4 k2.2)⟩
                        rw [u3]
                        simpa using hqk.2
                    · cases fz' with
                      | false => rfl
                      | true => rw [g2 rfl] at z; cases z
                  · rw [h3.2]
                    exact h.ob x1 _ h3.1
                | none =>
                  simp only [e] at h2
                  obtain ⟨e0, fz0, _, rfl⟩ := h2
                  exact ⟨.inr ⟨rfl, rfl⟩, fun z => by cases z⟩
            · cases hu
          · cases hu
        · cases hp
      · cases hp
end
end Go.Vm
/- Pieces of code. -/
namespace Go.Vm

/-! ### What trees mean -/
theorem iter_succ {σ α : Type} {f : σ → Option (σ ⊕ α)} : ∀ {n : Nat} {s : σ} {a : α}, iter f n s = some a → iter f (n + 1) s = some a
  | 0, s, a, h => by simp [iter] at h
  | n + 1, s, a, h => by
    simp only [iter] at h
    rw [iter]
    split at h
    · exact iter_succ h
    · exact h
    · cases h
theorem iter_le {σ α : Type} {f : σ → Option (σ ⊕ α)} {n n' : Nat} {s : σ} {a : α} (h : iter f n s = some a) (hn : n ≤ n') : iter f n' s = some a := by
  induction hn with
  | refl => exact h
  | step _ ih => exact iter_succ ih
theorem loopLim_iff {σ α : Type} {f : σ → Option (σ ⊕ α)} {s : σ} {a : α} : loopLim f s = some a ↔ ∃ n, iter f n s = some a := by
  unfold loopLim
  constructor
  · intro h
    split at h
    · rename_i hh
      cases h
      exact Classical.choose_spec hh
    · cases h
  · rintro ⟨n, h⟩
    have hh : ∃ a, ∃ n, iter f n s = some a := ⟨a, n, h⟩
    rw [dif_pos hh]
    obtain ⟨n', h'⟩ := Classical.choose_spec hh
    have h1 := iter_le h (Nat.le_max_left n n')
    have h2 := iter_le h' (Nat.le_max_right n n')
    rw [h1] at h2
    exact h2.symm
theorem iter_map {σ α β : Type} {f : σ → Option (σ ⊕ α)} {g : σ → Option (σ ⊕ β)} {u : α → β} (h : ∀ s, g s = (f s).map fun x => match x with
    | .inl s => .inl s
    | .inr a => .inr (u a)) : ∀ (n : Nat) (s : σ), iter g n s = (iter f n s).map u
  | 0, s => rfl
  | n + 1, s => by
    simp only [iter, h s]
    cases f s with
    | none => rfl
    | some x =>
      cases x with
      | inl s' => exact iter_map h n s'
      | inr a => rfl
theorem loopLim_map {σ α β : Type} {f : σ → Option (σ ⊕ α)} {g : σ → Option (σ ⊕ β)} {u : α → β} (h : ∀ s, g s = (f s).map fun x => match x with
    | .inl s => .inl s
    | .inr a => .inr (u a)) (s : σ) : loopLim g s = (loopLim f s).map u := by
  cases e : loopLim f s with
  | some a =>
    obtain ⟨n, hn⟩ := loopLim_iff.1 e
    exact loopLim_iff.2 ⟨n, by rw [iter_map h, hn]; rfl⟩
  | none =>
    cases e2 : loopLim g s with
    | none => rfl
    | some b =>
      obtain ⟨n, hn⟩ := loopLim_iff.1 e2
      rw [iter_map h] at hn
      cases e3 : iter f n s with
      | none => rw [e3] at hn; cases hn
      | some a =>
        rw [loopLim_iff.2 ⟨n, e3⟩] at e
        cases e

theorem Tree.den_map {α : Type} : ∀ {ρ : Type} (f : ρ → α) (x : Tree ρ), (x.map f).den = x.den.map f
  | _, f, .ret r => rfl
  | _, f, .fail w l => rfl
  | _, f, .cnd b x y => by
    simp only [Tree.map, Tree.den]
    cases b
    · simp only [Bool.false_eq_true, if_false]; exact Tree.den_map f y
    · simp only [if_true]; exact Tree.den_map f x
  | _, f, .req p i x => by
    simp only [Tree.map, Tree.den, Tree.den_map f x]
    split <;> rfl
  | _, f, .at d l i k => by
    simp only [Tree.map, Tree.den]
    split
    · split
      · exact Tree.den_map f _
      · rfl
    · rfl
  | _, f, .bnd x k => by
    simp only [Tree.map, Tree.den]
    exact Tree.den_map f _
  | _, f, .call d m k => by
    simp only [Tree.map, Tree.den]
    cases m with
    | none => rfl
    | some a => exact Tree.den_map f _
  | _, f, .join id m k => by
    simp only [Tree.map, Tree.den, Tree.den_map _ m]
    cases m.den with
    | none => rfl
    | some x =>
      cases x with
      | inl a => exact Tree.den_map f _
      | inr r => rfl
  | _, f, .loop id ds da s body k => by
    simp only [Tree.map, Tree.den]
    rw [loopLim_map (f := fun s => (body s).den) (u := fun x => match x with
      | .inl a => .inl a
      | .inr r => .inr (f r)) (fun s => ?_)]
    · cases loopLim (fun s => (body s).den) s with
      | none => rfl
      | some x =>
        cases x with
        | inl a => exact Tree.den_map f _
        | inr r => rfl
    · simp only [Tree.den_map _ (body s)]
      congr 1
      funext x
      cases x with
      | inl s => rfl
      | inr y => cases y <;> rfl
end Go.Vm
/- Pieces of code: soundness. -/
namespace Go.Vm
section
variable {orc : Oracle}

/-- Loops answer as their rounds do. -/
def LoopOK (orc : Oracle) : Prop := ∀ a σ e σ', interp orc a σ = some (e, σ') →
  (e = .normal → ∀ x, orc (.loop none a σ') = some x → orc (.loop none a σ) = some x) ∧ (e ≠ .normal → orc (.loop none a σ) = some (.st e σ'))

/-- A round's ends. -/
def loopK {ρ : Type} (n : Nat) (H X : Ann) (k : Ex → TState → Tree ρ) (e : Ex) (τ' : TState) : Tree (pd H.pts ⊕ (pd X.pts ⊕ ρ)) := match e with
  | .normal => match H.pack τ' with
    | some y => .ret (.inl y)
    | none => .fail (300000 + n) [τ']
  | .exit id => if id = X.exit then (match X.pack τ' with
    | some y => .ret (.inr (.inl y))
    | none => .fail (400000 + n) [τ']) else .fail (700000 + id) [τ']
  | .ret => (k .ret τ').map (Sum.inr ∘ Sum.inr)
def loopBody {ρ : Type} (E : TEnv) (a : RCode) (n : Nat) (H X : Ann) (k : Ex → TState → Tree ρ) (x : pd H.pts) : Tree (pd H.pts ⊕ (pd X.pts ⊕ ρ)) := match H.unpack x with
  | none => .fail 162
  | some τ1 => exec E a (n + 1) τ1 (loopK n H X k)

theorem exec_ok {E : TEnv} (hE : EnvOK orc E) (hL : LoopOK orc) : ∀ (c : RCode) {ρ : Type} {n : Nat} {τ : TState} {σ : State} {m : Nat → Slot} {k : Ex → TState → Tree ρ} {r : ρ}, Rel m τ σ → (exec E c n τ k).den = some r →
    ∃ e σ' τ' m', interp orc c σ = some (e, σ') ∧ Rel m' τ' σ' ∧ (k e τ').den = some r
  | .skip, ρ, n, τ, σ, m, k, r, h, hd => ⟨_, σ, τ, m, rfl, h, hd⟩
  | .ret, ρ, n, τ, σ, m, k, r, h, hd => ⟨_, σ, τ, m, rfl, h, hd⟩
  | .exit id, ρ, n, τ, σ, m, k, r, h, hd => ⟨_, σ, τ, m, rfl, h, hd⟩
  | .seq a b, ρ, n, τ, σ, m, k, r, h, hd => by
    simp only [exec] at hd
    split at hd
    · obtain ⟨e, σ1, τ1, m1, h1, h2, h3⟩ := exec_ok hE hL a h hd
      cases e with
      | normal =>
        obtain ⟨e, σ2, τ2, m2, g1, g2, g3⟩ := exec_ok hE hL b h2 h3
        exact ⟨e, σ2, τ2, m2, by simp only [interp, h1]; exact g1, g2, g3⟩
      | exit id => exact ⟨_, σ1, τ1, m1, by simp only [interp, h1], h2, h3⟩
      | ret => exact ⟨_, σ1, τ1, m1, by simp only [interp, h1], h2, h3⟩
    · rename_i A eA
      simp only [Tree.den] at hd
      obtain ⟨z, hz, hd⟩ := Option.bind_eq_some_iff.1 hd
      obtain ⟨e, σ1, τ1, m1, h1, h2, h3⟩ := exec_ok hE hL a h hz
      have other : e ≠ .normal → (k e τ1).den.map Sum.inr = some z → ∃ e σ' τ' m', interp orc (.seq a b) σ = some (e, σ') ∧ Rel m' τ' σ' ∧ (k e τ').den = some r := by
        intro hne h3
        obtain ⟨r', h4, rfl⟩ := Option.map_eq_some_iff.1 h3
        simp only [Option.some.injEq] at hd
        subst hd
        refine ⟨e, σ1, τ1, m1, ?_, h2, h4⟩
        simp only [interp, h1]
        cases e with
        | normal => exact absurd rfl hne
        | _ => rfl
      cases e with
      | normal =>
        simp only at h3
        split at h3
        · rename_i x ex
          simp only [Tree.den, Option.some.injEq] at h3
          subst h3
          simp only at hd
          split at hd
          · rename_i τ2 eu
            obtain ⟨m2, h4⟩ := h2.repack ex eu
            obtain ⟨e, σ3, τ3, m3, g1, g2, g3⟩ := exec_ok hE hL b h4 hd
            exact ⟨e, σ3, τ3, m3, by simp only [interp, h1]; exact g1, g2, g3⟩
          · cases hd
        · cases h3
      | exit id => exact other (by simp) (by rw [← Tree.den_map]; exact h3)
      | ret => exact other (by simp) (by rw [← Tree.den_map]; exact h3)
  | .cond c a b, ρ, n, τ, σ, m, k, r, h, hd => by
    simp only [exec] at hd
    have hc := h.val c
    split at hd
    · rename_i ec
      rw [ec] at hc
      have hv : c.val σ = .bool true := by
        have : [c.val σ] = [.bool true] := hc
        simpa using this
      obtain ⟨e, σ1, τ1, m1, h1, h2, h3⟩ := exec_ok hE hL a h hd
      exact ⟨e, σ1, τ1, m1, by simp only [interp, hv]; exact h1, h2, h3⟩
    · rename_i ec
      rw [ec] at hc
      have hv : c.val σ = .bool false := by
        have : [c.val σ] = [.bool false] := hc
        simpa using this
      obtain ⟨e, σ1, τ1, m1, h1, h2, h3⟩ := exec_ok hE hL b h hd
      exact ⟨e, σ1, τ1, m1, by simp only [interp, hv]; exact h1, h2, h3⟩
    · rename_i x ec
      rw [ec] at hc
      have hv : c.val σ = .bool x := by
        have : [c.val σ] = Ty.bool.cells x := hc
        simpa [Ty.cells] using this
      simp only [Tree.den] at hd
      cases x with
      | true =>
        simp only [if_true] at hd
        obtain ⟨e, σ1, τ1, m1, h1, h2, h3⟩ := exec_ok hE hL a h hd
        exact ⟨e, σ1, τ1, m1, by simp only [interp, hv]; exact h1, h2, h3⟩
      | false =>
        simp only [Bool.false_eq_true, if_false] at hd
        obtain ⟨e, σ1, τ1, m1, h1, h2, h3⟩ := exec_ok hE hL b h hd
        exact ⟨e, σ1, τ1, m1, by simp only [interp, hv]; exact h1, h2, h3⟩
    · cases hd
  | .block id a, ρ, n, τ, σ, m, k, r, h, hd => by
    simp only [exec] at hd
    obtain ⟨e, σ1, τ1, m1, h1, h2, h3⟩ := exec_ok hE hL a h hd
    cases e with
    | normal => exact ⟨_, σ1, τ1, m1, by simp only [interp, h1], h2, h3⟩
    | ret => exact ⟨_, σ1, τ1, m1, by simp only [interp, h1], h2, h3⟩
    | exit id' =>
      simp only at h3
      split at h3
      · rename_i hid
        exact ⟨_, σ1, τ1, m1, by simp only [interp, h1, hid, if_true], h2, h3⟩
      · rename_i hid
        exact ⟨_, σ1, τ1, m1, by simp only [interp, h1, hid, if_false], h2, h3⟩
  | .region ins bef, ρ, n, τ, σ, m, k, r, h, hd => by
    simp only [exec] at hd
    obtain ⟨σ1, τ1, m1, fs, h1, h2, h3, h4, h5⟩ := insL_ok hE (h.same (τ' := { τ with fp := [] }) rfl rfl) hd
    cases bef with
    | none => exact ⟨_, σ1, τ1, m1, by simp only [interp, h1, Option.map_some], h2, h3⟩
    | some bs =>
      simp only at h3
      split at h3
      · rename_i hdr
        rw [h4, List.nil_append] at hdr
        exact ⟨_, σ1, { τ1 with fp := [] }, m1, by simp only [interp, h1, drawOk_mono h5 hdr, if_true], h2.same rfl rfl, h3⟩
      · cases h3
  | .loop lv a, ρ, n, τ, σ, m, k, r, h, hd => by
    simp only [exec] at hd
    split at hd
    · rename_i H eH
      split at hd
      · cases hd
      · rename_i x0 ex0
        generalize hX : (E.ann (n + 1000000)).getD default = X at hd
        simp only [Tree.den] at hd
        obtain ⟨z, hz, hd⟩ := Option.bind_eq_some_iff.1 hd
        obtain ⟨N, hN⟩ := loopLim_iff.1 hz
        clear hz
        -- round by round
        suffices key : ∀ (N : Nat) (x0 : pd H.pts) (τ : TState) (σ : State) (m : Nat → Slot), Rel m τ σ → H.pack τ = some x0 → iter (fun s => (loopBody E a n H X k s).den) N x0 = some z → 
              ∃ e σ' τ' m', orc (.loop none a σ) = some (.st e σ') ∧ Rel m' τ' σ' ∧ (k e τ').den = some r by
          have hN' : iter (fun s => (loopBody E a n H X k s).den) N x0 = some z := by
            refine Eq.trans ?_ hN
            congr 1
          obtain ⟨e, σ', τ', m', h1, h2, h3⟩ := key N x0 τ σ m h ex0 hN'
          exact ⟨e, σ', τ', m', by simp only [interp, h1], h2, h3⟩
        intro N
        induction N with
        | zero => intro x0 τ σ m _ _ hN; simp [iter] at hN
        | succ N ih =>
          intro x0 τ σ m h ex0 hN
          simp only [iter] at hN
          -- one round
          have round : ∀ w, (loopBody E a n H X k x0).den = some w →
              ∃ e σ1 τ1 m1, interp orc a σ = some (e, σ1) ∧ Rel m1 τ1 σ1 ∧ (loopK n H X k e τ1).den = some w := by
            intro w hw
            unfold loopBody at hw
            split at hw
            · cases hw
            · rename_i τ1 eu
              obtain ⟨m1, h4⟩ := h.repack ex0 eu
              exact exec_ok hE hL a h4 hw
          split at hN
          · rename_i s' es
            obtain ⟨e, σ1, τ1, m1, h1, h2, h3⟩ := round _ es
            cases e with
            | normal =>
              simp only [loopK] at h3
              split at h3
              · rename_i y ey
                simp only [Tree.den, Option.some.injEq, Sum.inl.injEq] at h3
                subst h3
                obtain ⟨e, σ', τ', m', g1, g2, g3⟩ := ih _ τ1 σ1 m1 h2 ey hN
                exact ⟨e, σ', τ', m', (hL a σ .normal σ1 h1).1 rfl _ g1, g2, g3⟩
              · cases h3
            | exit id =>
              simp only [loopK] at h3
              split at h3
              · split at h3
                · cases h3
                · cases h3
              · cases h3
            | ret =>
              simp only [loopK, Tree.den_map] at h3
              obtain ⟨_, _, h3⟩ := Option.map_eq_some_iff.1 h3
              cases h3
          · rename_i z' es
            simp only [Option.some.injEq] at hN
            subst hN
            obtain ⟨e, σ1, τ1, m1, h1, h2, h3⟩ := round _ es
            cases e with
            | normal =>
              simp only [loopK] at h3
              split at h3
              · cases h3
              · cases h3
            | exit id =>
              simp only [loopK] at h3
              split at h3
              · rename_i hid
                subst hid
                split at h3
                · rename_i y ey
                  simp only [Tree.den, Option.some.injEq, Sum.inr.injEq] at h3
                  subst h3
                  simp only at hd
                  split at hd
                  · rename_i τ2 eu
                    obtain ⟨m2, h4⟩ := h2.repack ey eu
                    exact ⟨_, σ1, τ2, m2, (hL a σ _ σ1 h1).2 (by simp), h4, hd⟩
                  · cases hd
                · cases h3
              · cases h3
            | ret =>
              simp only [loopK, Tree.den_map] at h3
              obtain ⟨r', h4, h3⟩ := Option.map_eq_some_iff.1 h3
              simp only [Function.comp_apply, Sum.inr.injEq] at h3
              subst h3
              simp only [Option.some.injEq] at hd
              subst hd
              exact ⟨_, σ1, τ1, m1, (hL a σ _ σ1 h1).2 (by simp), h2, h4⟩
          · cases hN
    · cases hd
end
end Go.Vm
/- Begin of a function. -/
namespace Go.Vm
section
variable {t : Nat}

abbrev σ00 : State := ⟨[], [], []⟩

theorem impR_cell {f k : Nat} {a : AV} (h : a.leaf = true) : ∃ k', (impR t (f + 1) k a).run σ00 = some (a, [], k') ∧ k ≤ k' ∧ k' ≤ k + 1 := by
  cases a <;> first
    | (simp [AV.leaf] at h; done)
    | exact ⟨k, rfl, Nat.le_refl _, by omega⟩
    | exact ⟨k + 1, rfl, by omega, Nat.le_refl _⟩
theorem mapI_cells {f : Nat} : ∀ {as : List AV} {k : Nat}, (∀ a ∈ as, a.leaf = true) → ∃ k', (mapI (impR t (f + 1)) k as).run σ00 = some (as, [], k') ∧ k ≤ k' ∧ k' ≤ k + as.length
  | [], k, _ => ⟨k, rfl, Nat.le_refl _, by simp⟩
  | a :: as, k, h => by
    obtain ⟨k1, h1, h2, h3⟩ := impR_cell (t := t) (f := f) (k := k) (h a (by simp))
    obtain ⟨k2, g1, g2, g3⟩ := mapI_cells (f := f) (as := as) (k := k1) (fun x hx => h x (by simp [hx]))
    refine ⟨k2, ?_, by omega, by simp only [List.length_cons]; omega⟩
    simp only [mapI, R.run_bind, h1, Option.bind_some, g1, R.run_ret, List.append_nil]

theorem tcs_RCs (τ : TState) (σ : State) (m : Nat → Slot) (t : Ty) (x : t.D) : RCs τ σ m (t.tcs x) (t.cells x) := RpL_RCs (op_ixA.tcs_RpL t x)
theorem tcs_one {t : Ty} (h : t.one = true) (x : t.D) : ∃ c, t.tcs x = [c] := by
  cases t <;> first | exact ⟨_, rfl⟩ | cases h

/-- Moved to a wider range. -/
theorem InR.mono {k k1 k2 : Nat} {ws : List W} (h : InR t k k1 ws) (hk : k1 ≤ k2) : InR t 0 k2 ws := by
  refine ⟨fun w hw => ?_, h.2⟩
  have := h.1 w hw
  cases w with
  | o d s => obtain ⟨⟨j, a, b, c⟩, e⟩ := this; exact ⟨⟨j, Nat.zero_le _, by omega, c⟩, e⟩
  | f d b => obtain ⟨e, j, a, b, c⟩ := this; exact ⟨e, j, Nat.zero_le _, by omega, c⟩
  | t => exact this
theorem OsOK.mono {k k1 k2 : Nat} {os : List (Nat × List Slot × TO)} (h : OsOK t k k1 os) (hk : k1 ≤ k2) : OsOK t 0 k2 os :=
  ⟨fun p hp => by obtain ⟨⟨j, a, b, c⟩, e⟩ := h.1 p hp; exact ⟨⟨j, Nat.zero_le _, by omega, c⟩, e⟩, h.2⟩

theorem roRs_get {τ : TState} {σ : State} {m : Nat → Slot} : ∀ {ts : List Ty} {l p rest : List DP} {cs : List TC} {r : List DP} {x : List AV}, rpL ts l = some (cs, r) → l = p ++ rest → roRs ts p x →
    r = rest ∧ x.length = cs.length ∧ ∀ (j : Nat) (c : TC) (u : AV), cs[j]? = some c → x[j]? = some u → RC τ σ m c [u]
  | [], l, p, rest, cs, r, x, h, hl, ⟨h1, h2⟩ => by
    simp only [rpL] at h; cases h
    subst h1 h2
    exact ⟨hl, rfl, by simp⟩
  | t :: ts, l, p, rest, cs, r, x, h, hl, ⟨y, pr, fs, q, as', h1, h2, h3, h4⟩ => by
    subst h1 h2 hl
    simp only [List.cons_append, rpL, if_true, Option.map_eq_some_iff] at h
    obtain ⟨⟨cs', r'⟩, e, h⟩ := h
    cases h
    obtain ⟨g1, g2, g3⟩ := roRs_get (τ := τ) (σ := σ) (m := m) e rfl h4
    refine ⟨g1, by simp [g2], fun j c u hc hu => ?_⟩
    cases j with
    | zero =>
      simp only [List.getElem?_cons_zero, Option.some.injEq] at hc hu
      subst hc hu
      exact .inl ⟨fs, q, h3, rfl⟩
    | succ j =>
      simp only [List.getElem?_cons_succ] at hc hu
      exact g3 j c u hc hu

theorem ent_ok {a : AT} {pl p1 p2 rest : List DP} {v : TV} {o : List (Nat × List Slot × TO)} {x : AV} (he : entT t a pl = some (v, o, rest)) (hp : pl = p1 ++ p2) (ha : AR a p1 x) :
    rest = p2 ∧ ∃ b ws k, (impR t depth 0 x).run σ00 = some (b, ws, k) ∧ k ≤ 64 ∧ InR t 0 64 ws ∧ OsOK t 0 64 o ∧ Come o ws fun τ' σ' m' => RT τ' σ' m' v b := by
  subst hp
  have allK : ∀ j : Nat, j < 64 → Key.o (64 * t + j) ∈ (List.range 64).map fun j => Key.o (64 * t + j) := fun j hj => List.mem_map.2 ⟨j, List.mem_range.2 hj, rfl⟩
  cases a with
  | val ty =>
    obtain ⟨y, rfl, rfl⟩ := ha
    simp only [entT, List.cons_append, List.nil_append] at he
    split at he
    · rename_i hh
      cases he
      refine ⟨rfl, ?_⟩
      cases ho : ty.one with
      | true =>
        obtain ⟨c, hc⟩ := tcs_one ho y
        obtain ⟨w, hw1, hw2⟩ := Ty.one_cells ho y
        have henc : ty.enc y = w := by simp only [Ty.enc, enc1, ho, if_true, hw1, List.headD_cons]
        obtain ⟨k', h1, h2, h3⟩ := impR_cell (t := t) (f := 5) (k := 0) hw2
        refine ⟨w, [], k', by rw [henc]; exact h1, by omega, .nil, .nil, fun τ' σ' m' _ _ => ⟨?_, by simp⟩⟩
        simp only [if_true, hc]
        have := tcs_RCs τ' σ' m' ty y
        rw [hc, hw1] at this
        exact RCs.single.1 this
      | false =>
        have henc : ty.enc y = .agg (ty.cells y) := by simp only [Ty.enc, enc1, ho, Bool.false_eq_true, if_false]
        obtain ⟨k', h1, h2, h3⟩ := mapI_cells (t := t) (f := 4) (as := ty.cells y) (k := 0) (ty.cells_leaf y)
        refine ⟨.agg (ty.cells y), [], k', ?_, ?_, .nil, .nil, fun τ' σ' m' _ _ => ⟨?_, by simp⟩⟩
        · rw [henc]
          show ((mapI (impR t 5) 0 (ty.cells y)).bind fun q => R.ret (AV.agg q.1, q.2)).run σ00 = _
          rw [R.run_bind, h1]; rfl
        · rw [ty.len_cells, ← ty.len_shape] at h3; omega
        · simp only [Bool.false_eq_true, if_false]
          exact ⟨_, rfl, tcs_RCs τ' σ' m' ty y⟩
    · cases he
  | oagg ks =>
    obtain ⟨as, rfl, hr⟩ := ha
    simp only [entT] at he
    split at he
    · rename_i cs os k r ei
      split at he
      · rename_i hk
        cases he
        obtain ⟨h1, _, bs, ws, d1, d2, d3, d4, d5⟩ := impL_ok (σ := σ00) (f := 4) (strict := true) (.inl rfl) ei rfl hr (fun j _ hj => allK j (by omega))
        refine ⟨h1, .agg bs, ws, k, ?_, hk, d2.mono hk, d3.mono hk, d5.imp fun τ' σ' m' h => ⟨bs, rfl, h⟩⟩
        show ((mapI (impR t 5) 0 as).bind fun q => R.ret (AV.agg q.1, q.2)).run σ00 = _
        rw [R.run_bind, d1.1]; rfl
      · cases he
    · cases he
  | io cin cout =>
    obtain ⟨as, rfl, hr⟩ := ha
    simp only [entT] at he
    split at he
    · rename_i cs os k r ei
      split at he
      · rename_i hk
        cases he
        have hle := impL_le ei
        obtain ⟨h1, _, bs, ws, d1, d2, d3, d4, d5⟩ := impL_ok (σ := σ00) (f := 4) (strict := false) (.inr rfl) ei rfl hr (fun j _ hj => allK j (by omega))
        have hin : InR t 0 1 [.o (64 * t) ⟨1, some ⟨bs.length, [.agg bs], true, 1⟩⟩, .f (64 * t) false] := by
          refine ⟨fun w hw => ?_, by simp [madeAt]⟩
          simp only [List.mem_cons, List.not_mem_nil, or_false] at hw
          rcases hw with rfl | rfl
          · exact ⟨⟨0, Nat.le_refl _, by omega, rfl⟩, rfl⟩
          · exact ⟨rfl, 0, Nat.le_refl _, by omega, rfl⟩
        have hos : OsOK t 0 1 [(64 * t, [64 * t], TO.var true cs false true)] := ⟨by
          intro p hp
          simp only [List.mem_cons, List.not_mem_nil, or_false] at hp
          subst hp
          exact ⟨⟨0, Nat.le_refl _, by omega, rfl⟩, rfl⟩, by simp⟩
        refine ⟨h1, .ref (64 * t) 1 0 0, .o (64 * t) ⟨1, some ⟨bs.length, [.agg bs], true, 1⟩⟩ :: .f (64 * t) false :: ws, k, ?_, hk, (hin.append d2 (by omega) (by omega)).mono hk, (hos.append d3 (by omega) (by omega)).mono hk, ?_⟩
        · show ((mapI (impR t 5) 1 as).bind fun q => R.ret (AV.ref (64 * t + 0) 1 0 0, W.o (64 * t + 0) ⟨1, some ⟨q.1.length, [.agg q.1], true, 1⟩⟩ :: .f (64 * t + 0) false :: q.2.1, q.2.2)).run σ00 = _
          rw [R.run_bind, d1.1]; rfl
        · intro τ' σ' m' hw ho
          obtain ⟨q1, q2⟩ := d5 τ' σ' m' (fun w h => hw w (by simp [h])) (fun p h => ho p (by simp [h]))
          have h1 : σ'.getO (64 * t) = _ := hw _ List.mem_cons_self
          have h2 : σ'.getF (64 * t) = false := hw (.f (64 * t) false) (by simp)
          obtain ⟨ho1, ho2⟩ := ho _ List.mem_cons_self
          simp only at ho1 ho2
          refine ⟨⟨⟨_, _, _, _, ho1⟩, by rw [ho2, h1]⟩, fun p hp => ?_⟩
          simp only [List.mem_cons] at hp
          rcases hp with rfl | hp
          · exact ⟨⟨_, _, _, _, h1, ⟨bs, rfl, q1⟩, fun h => by cases h⟩, fun _ => h2, fun _ => by simp only [h1]⟩
          · exact q2 p hp
      · cases he
    · cases he
  | own e back =>
    obtain ⟨l, rfl, rfl⟩ := ha
    simp only [entT, dpl, List.cons_append, List.nil_append, if_true] at he
    cases he
    refine ⟨rfl, .sref (64 * t) 1 0 l.length, [.o (64 * t) ⟨1, some ⟨e.width, l.map e.enc, false, l.length⟩⟩, .f (64 * t) false], 1, ?_, by omega, ?_, ?_, ?_⟩
    · show some (AV.sref (64 * t + 0) 1 0 (l.map e.enc).length, [W.o (64 * t + 0) ⟨1, some ⟨e.width, l.map e.enc, false, (l.map e.enc).length⟩⟩, W.f (64 * t + 0) false], 0 + 1) = _
      rw [List.length_map]; rfl
    · refine ⟨fun w hw => ?_, by simp [madeAt]⟩
      simp only [List.mem_cons, List.not_mem_nil, or_false] at hw
      rcases hw with rfl | rfl
      · exact ⟨⟨0, Nat.le_refl _, by omega, rfl⟩, rfl⟩
      · exact ⟨rfl, 0, Nat.le_refl _, by omega, rfl⟩
    · exact ⟨by
        intro p hp
        simp only [List.mem_cons, List.not_mem_nil, or_false] at hp
        subst hp
        exact ⟨⟨0, Nat.le_refl _, by omega, rfl⟩, rfl⟩, by simp⟩
    · intro τ' σ' m' hw ho
      have h1 : σ'.getO (64 * t) = _ := hw _ List.mem_cons_self
      have h2 : σ'.getF (64 * t) = false := hw (.f (64 * t) false) (by simp)
      obtain ⟨ho1, ho2⟩ := ho _ List.mem_cons_self
      simp only at ho1 ho2
      have hsl : SlR σ' (64 * t) e l (some l.length) false := ⟨⟨_, _, h1, Nat.le_refl _, fun c' hc => by simpa using hc⟩, fun _ => h2⟩
      refine ⟨⟨_, rfl, e, l, _, false, true, ho1, .inl ⟨by rw [ho2]; exact hsl, by simp only [ho2, h1]⟩⟩, ?_⟩
      intro p hp
      simp only [List.mem_cons, List.not_mem_nil, or_false] at hp
      subst hp
      exact ⟨.inl hsl, fun _ => by simp only [h1]⟩
  | ro ty =>
    obtain ⟨y, pr, fs, q, as', rfl, h2, h3, h4, h5⟩ := ha
    subst h4 h5
    simp only [List.cons.injEq, and_true] at h2
    subst h2
    simp only [entT, List.cons_append, List.nil_append, if_true] at he
    cases he
    exact ⟨rfl, .ro (fs ++ q), [], 0, rfl, by omega, .nil, .nil, fun τ' σ' m' _ _ => ⟨.inl ⟨fs, q, h3, rfl⟩, by simp⟩⟩
  | fn g fs cs =>
    obtain ⟨ax, ay, q1, q2, rfl, rfl, h1, h2⟩ := ha
    simp only [entT] at he
    split at he
    · rename_i a1 r1 e1
      split at he
      · rename_i b1 r2 e2
        cases he
        obtain ⟨rfl, _, _⟩ := roRs_get (τ := ⟨[], [], []⟩) (σ := σ00) (m := id) e1 (by rw [List.append_assoc]) h1
        obtain ⟨rfl, _, _⟩ := roRs_get (τ := ⟨[], [], []⟩) (σ := σ00) (m := id) e2 rfl h2
        refine ⟨rfl, .fn g ax ay, [], 0, rfl, by omega, .nil, .nil, fun τ' σ' m' _ _ => ⟨?_, by simp⟩⟩
        obtain ⟨_, l1, g1⟩ := roRs_get (τ := τ') (σ := σ') (m := m') e1 (by rw [List.append_assoc]) h1
        obtain ⟨_, l2, g2⟩ := roRs_get (τ := τ') (σ := σ') (m := m') e2 rfl h2
        exact ⟨ax, ay, rfl, l1, l2, g1, g2⟩
      · cases he
    · cases he
end
end Go.Vm
/- Begin of a function: the state. -/
namespace Go.Vm
section

theorem look_obs : ∀ {ws : List W}, GoodW ws → ∀ {d : Slot} {s : SlotSt}, W.o d s ∈ ws → look d (obsOf ws) = s
  | [], _, _, _, h => by cases h
  | v :: ws, hg, d, s, h => by
    have hg' : GoodW ws := ⟨fun w hw => hg.1 w (by simp [hw]), by
      have h2 := hg.2
      cases v with
      | o d s =>
        simp only [madeAt] at h2
        split at h2
        · exact (List.nodup_cons.1 h2).2
        · exact h2
      | f => exact h2
      | t => exact h2⟩
    simp only [List.mem_cons] at h
    cases v with
    | o d' s' =>
      have hs' := hg.1 _ (List.mem_cons_self (a := W.o d' s'))
      simp only at hs'
      rcases h with h | h
      · cases h
        simp [obsOf, look]
      · have hne : ¬ (d' == d) = true := by
          simp only [beq_iff_eq]
          rintro rfl
          have h2 := hg.2
          simp only [madeAt, hs', if_true] at h2
          exact (List.nodup_cons.1 h2).1 (made_of_mem h (hg.1 _ (List.mem_cons_of_mem _ h)))
        simp only [obsOf, look, hne]
        exact look_obs hg' h
    | f d' b =>
      rcases h with h | h
      · cases h
      · simp only [obsOf]; exact look_obs hg' h
    | t => exact (hg.1 _ List.mem_cons_self).elim

/-- All arguments. -/
theorem ents_ok : ∀ {as : List AT} {t : Nat} {pl : List DP} {vs : List TV} {os : List (Nat × List Slot × TO)} {args : List AV}, entsT t as pl = some (vs, os) → ARs as pl args →
    ∃ bs ws, entryL t args = some (bs, obsOf ws) ∧ bs.length = vs.length ∧ args.length = as.length ∧ bs.length = as.length ∧ GoodW ws ∧ (∀ d ∈ madeAt ws, 64 * t ≤ d) ∧
      (∀ p ∈ os, 64 * t ≤ p.1 ∧ p.2.1 = [p.1]) ∧ (os.map (·.1)).Nodup ∧ Come os ws fun τ' σ' m' => ∀ (j : Nat) (v : TV) (b : AV), vs[j]? = some v → bs[j]? = some b → RT τ' σ' m' v b
  | [], t, pl, vs, os, args, he, ⟨h1, h2⟩ => by
    subst h1 h2
    simp only [entsT] at he; cases he
    exact ⟨[], [], rfl, rfl, rfl, rfl, ⟨by simp, List.nodup_nil⟩, by simp [madeAt], by simp, List.nodup_nil, fun τ' σ' m' _ _ => ⟨by simp, by simp⟩⟩
  | a :: as, t, pl, vs, os, args, he, ⟨p1, p2, x, args', h1, h2, h3, h4⟩ => by
    subst h1 h2
    simp only [entsT] at he
    split at he
    · rename_i v o r e1
      split at he
      · rename_i vs' os' e2
        cases he
        obtain ⟨rfl, b, ws, k, d1, d2, d3, d4, d5⟩ := ent_ok e1 rfl h3
        obtain ⟨bs, ws', g1, g2, g2', g2'', g3, g4, g5, g6, g7⟩ := ents_ok e2 h4
        refine ⟨b :: bs, ws ++ ws', ?_, by simp [g2], by simp [g2'], by simp [g2''], ⟨fun w hw => ?_, ?_⟩, fun d hd => ?_, fun p hp => ?_, ?_, (d5.append g7).imp fun τ' σ' m' h j v b hv hb => ?_⟩
        · simp only [entryL, d1]
          rw [if_neg (by omega), g1]
          simp only [obsOf_append]
        · rcases List.mem_append.1 hw with hw | hw
          · have := d3.1 w hw
            cases w with
            | o d s => exact this.2
            | f d b => exact this.1
            | t => exact this
          · exact g3.1 w hw
        · rw [madeAt_append]
          refine List.nodup_append.2 ⟨d3.2, g3.2, fun y hy z hz e => ?_⟩
          obtain ⟨j, j1, j2, j3⟩ := d3.made hy
          have h5 : (64 * (t + 1) : Nat) ≤ z := g4 z hz
          have h6 : (64 * t + j : Nat) = z := j3.symm.trans e
          omega
        · rw [madeAt_append] at hd
          rcases List.mem_append.1 hd with hd | hd
          · obtain ⟨j, j1, j2, j3⟩ := d3.made hd
            rw [j3]
            exact Nat.le_add_right _ _
          · have h5 : (64 * (t + 1) : Nat) ≤ d := g4 d hd
            exact Nat.le_trans (by omega) h5
        · rcases List.mem_append.1 hp with hp | hp
          · obtain ⟨⟨j, j1, j2, j3⟩, e⟩ := d4.1 p hp
            exact ⟨by omega, e⟩
          · obtain ⟨h5, e⟩ := g5 p hp
            exact ⟨by omega, e⟩
        · rw [List.map_append]
          refine List.nodup_append.2 ⟨d4.2, g6, fun y hy z hz e => ?_⟩
          obtain ⟨p, hp, rfl⟩ := List.mem_map.1 hy
          obtain ⟨q, hq, rfl⟩ := List.mem_map.1 hz
          obtain ⟨⟨j, j1, j2, j3⟩, _⟩ := d4.1 p hp
          obtain ⟨h5, _⟩ := g5 q hq
          omega
        · cases j with
          | zero =>
            simp only [List.getElem?_cons_zero, Option.some.injEq] at hv hb
            subst hv hb
            exact h.1
          | succ j =>
            simp only [List.getElem?_cons_succ] at hv hb
            exact h.2 j v b hv hb
      · cases he
    · cases he

theorem entry_ok {as : List AT} {pl : List DP} {vs : List TV} {os : List (Nat × List Slot × TO)} {args : List AV} (he : entsT 0 as pl = some (vs, os)) (ha : ARs as pl args) (nt : Nat) (hn : args.length ≤ nt) :
    args.length = as.length ∧ ∃ σ, entry nt args = some σ ∧ Rel id ⟨vs ++ List.replicate (nt - args.length) (.c .any), os, []⟩ σ := by
  obtain ⟨bs, ws, g1, g2, g2', g2'', g3, g4, g5, g6, g7⟩ := ents_ok he ha
  refine ⟨g2', ⟨bs ++ List.replicate (nt - args.length) .any, obsOf ws, []⟩, by unfold entry; rw [g1], ?_⟩
  generalize hτ : (⟨vs ++ List.replicate (nt - args.length) (.c .any), os, []⟩ : TState) = τ
  generalize hσ : (⟨bs ++ List.replicate (nt - args.length) .any, obsOf ws, []⟩ : State) = σ
  have hO : ∀ d, τ.getO d = (lookT d os).map (·.2) := fun d => by rw [← hτ]; rfl
  have hA : ∀ d, τ.at_ d = ((lookT d os).map (·.1)).getD [] := fun d => by rw [← hτ]; rfl
  have hheld : ∀ w ∈ ws, w.holds σ := by
    intro w hw
    have hg := g3.1 w hw
    cases w with
    | o d s => show σ.getO d = s; rw [← hσ]; exact look_obs g3 hw
    | f d b =>
      have hb : b = false := hg
      subst hb
      show σ.getF d = false
      rw [← hσ]; rfl
    | t => exact hg.elim
  obtain ⟨c1, c2⟩ := g7 τ σ id hheld (fun p hp => ⟨by rw [hO, lookT_of_mem g6 hp]; rfl, rfl⟩)
  refine ⟨?_, fun n => ?_, fun d d' hd _ _ => hd, fun d hd => ?_, fun d o ho => ?_⟩
  · rw [← hτ, ← hσ]; simp [g2]
  · have e1 : τ.getT n = (vs ++ List.replicate (nt - args.length) (TV.c .any)).getD n (.c .any) := by rw [← hτ]; rfl
    have e2 : σ.getT n = (bs ++ List.replicate (nt - args.length) AV.any).getD n .any := by rw [← hσ]; rfl
    rw [e1, e2]
    by_cases hn : n < vs.length
    · rw [List.getD_eq_getElem?_getD, List.getD_eq_getElem?_getD, List.getElem?_append_left hn, List.getElem?_append_left (by omega), List.getElem?_eq_getElem hn, List.getElem?_eq_getElem (by omega : n < bs.length)]
      exact c1 n _ _ (List.getElem?_eq_getElem hn) (List.getElem?_eq_getElem (by omega))
    · have : (vs ++ List.replicate (nt - args.length) (TV.c .any)).getD n (.c .any) = .c .any := by
        rw [List.getD_eq_getElem?_getD, List.getElem?_append_right (by omega), List.getElem?_replicate]
        split <;> rfl
      rw [this]
      exact rfl
  · rw [hO] at hd
    cases e : lookT d os with
    | none => rw [e] at hd; exact absurd rfl hd
    | some p =>
      have := (g5 _ (lookT_mem e)).2
      rw [hA, e]
      simp only [Option.map_some, Option.getD_some, id]
      rw [show p.1 = [d] from this]; simp
  · rw [hO] at ho
    cases e : lookT d os with
    | none => rw [e] at ho; cases ho
    | some p =>
      rw [e] at ho
      cases ho
      exact c2 _ (lookT_mem e)
end
end Go.Vm
/- End of a function: the results. -/
namespace Go.Vm
section
variable {τ : TState} {σ : State} {m : Nat → Slot}

theorem mapE_mem {g : AV → R (AV × List Slot × List Slot)} {a b : AV} {mv1 rd1 : List Slot} (ha : (g a).run σ = some (b, mv1, rd1)) : ∀ {as bs : List AV} {mv rd : List Slot}, (mapE g as).run σ = some (bs, mv, rd) → a ∈ as → ∀ s ∈ mv1, s ∈ mv
  | [], _, _, _, _, hm => by cases hm
  | x :: xs, bs, mv, rd, h, hm => by
    simp only [mapE, R.run_bind] at h
    cases e1 : (g x).run σ with
    | none => simp [e1] at h
    | some p =>
      cases e2 : (mapE g xs).run σ with
      | none => simp [e1, e2] at h
      | some q =>
        simp only [e1, e2, Option.bind_some, R.run_ret, Option.some.injEq, Prod.mk.injEq] at h
        obtain ⟨rfl, rfl, rfl⟩ := h
        simp only [List.mem_cons] at hm
        intro s hs
        rcases hm with rfl | hm
        · rw [e1] at ha
          cases ha
          exact List.mem_append_left _ hs
        · exact List.mem_append_right _ (mapE_mem ha (bs := q.1) (mv := q.2.1) (rd := q.2.2) e2 hm s hs)

theorem own_sure (h : Rel m τ σ) {f d : Nat} {w : Option (Nat × Nat)} {a : AV} {e : Ty} {l : List e.D} {cap : Option Nat} {s1 : Bool} (ho : OwnR τ σ m d w false a) (hd : τ.getO d = some (.sl e l cap false s1)) : ∃ b, (expR (f + 1) a).run σ = some (b, [m d], []) := by
  obtain ⟨e0, l0, cap0, fz0, s10, ho0, hc⟩ := ho
  rw [hd] at ho0
  simp only [Option.some.injEq, TO.sl.injEq] at ho0
  obtain ⟨rfl, hll, rfl, rfl, rfl⟩ := ho0
  cases hll
  rcases hc with ⟨⟨⟨st, c, g1, g2, g3⟩, g4⟩, hw⟩ | ⟨hf, _⟩
  · have key : ∀ lo n, lo + n ≤ l.length → a = .sref (m d) st lo n → ∃ b, (expR (f + 1) a).run σ = some (b, [m d], []) := by
      intro lo n hle ha
      subst ha
      have := (expR_sref (f := f) (K := oKeys [m d]) g1 (lo := lo) (len := n) (by simpa using hle) (oKeys_o (by simp)) (oKeys_f (by simp))).1
      rw [g4 rfl] at this
      exact ⟨_, this⟩
    rw [g1] at hw
    cases w with
    | none => exact key 0 l.length (by omega) hw
    | some p => exact key p.1 p.2 hw.1 hw.2
  · cases hf

theorem mapE_inv1 {g : AV → R (AV × List Slot × List Slot)} {a : AV} {bs : List AV} {mv rd : List Slot} (h : (mapE g [a]).run σ = some (bs, mv, rd)) : ∃ b, bs = [b] ∧ (g a).run σ = some (b, mv, rd) := by
  simp only [mapE, R.run_bind] at h
  cases e1 : (g a).run σ with
  | none => simp [e1] at h
  | some p =>
    simp only [e1, Option.bind_some, R.run_ret, Option.some.injEq, Prod.mk.injEq, List.append_nil] at h
    obtain ⟨rfl, rfl, rfl⟩ := h
    exact ⟨p.1, rfl, rfl⟩

/-- A value that is handed out. -/
theorem exp_val (h : Rel m τ σ) {v : TV} {a : AV} {ag : Bool} {cs : List TC} {ks : List RK} {pl : List DP} {ns : List Nat} {ss mr : List Slot} (hv : RT τ σ m v a) (hc : v.cells = some (ag, cs)) (he : expF τ ks cs = some (pl, ns, ss, mr)) :
    ∃ b mv rd, (expR 6 a).run σ = some (b, mv, rd) ∧ (if ag then ∃ as, b = .agg as ∧ KRs false ks pl as else KRs false ks pl [b]) ∧ Picks m ns ss mv rd ∧ ∀ n ∈ ns, τ.getO n ≠ none := by
  cases v with
  | c x =>
    simp only [TV.cells, Option.some.injEq, Prod.mk.injEq] at hc
    obtain ⟨rfl, rfl⟩ := hc
    obtain ⟨bs, mv, rd, h1, h2, h3, h4, h5, h6⟩ := expF_ok h (f := 5) (K := oKeys (nameKeys τ ns ++ ss)) (RCs.single.2 hv) he (fun z hz => hz)
    obtain ⟨b, rfl, h7⟩ := mapE_inv1 h1.1
    exact ⟨b, mv, rd, h7, by simpa using h2, h3, h5⟩
  | agg cs' =>
    simp only [TV.cells, Option.some.injEq, Prod.mk.injEq] at hc
    obtain ⟨rfl, rfl⟩ := hc
    obtain ⟨as, rfl, hv⟩ := hv
    obtain ⟨bs, mv, rd, h1, h2, h3, h4, h5, h6⟩ := expF_ok h (f := 4) (K := oKeys (nameKeys τ ns ++ ss)) hv he (fun z hz => hz)
    refine ⟨.agg bs, mv, rd, ?_, by simpa using h2, h3, h5⟩
    show ((mapE (expR 5) as).bind fun q => R.ret (AV.agg q.1, q.2)).run σ = _
    rw [R.run_bind, h1.1]; rfl
  | fn => cases hc
  | tup => cases hc

/-- A result before nil lists are made empty ones. -/
def RR0 : RTag → List RK → List DP → AV → Prop
  | .ptr, ks, pl, b => ∃ as, b = .inout as ∧ KRs false ks pl as
  | .agg, ks, pl, b => ∃ as, b = .agg as ∧ KRs false ks pl as
  | .one, ks, pl, b => KRs false ks pl [b]
theorem resT_ok (h : Rel m τ σ) {ag : RTag} {ks : List RK} {r : RRes} {pl : List DP} {ns : List Nat} {ss mr : List Slot} (he : resT τ ag ks r = some (pl, ns, ss, mr)) :
    ∃ v b mv rd, r.get.run σ = some v ∧ (expR 6 v).run σ = some (b, mv, rd) ∧ RR0 ag ks pl b ∧ Picks m ns ss mv rd ∧ ∀ n ∈ ns, τ.getO n ≠ none := by
  have fin : ∀ {v : TV} {a : AV} {ag' : Bool} {cs : List TC}, RT τ σ m v a → v.cells = some (ag', cs) → ag ≠ .ptr ∧ ag' = decide (ag = .agg) → expF τ ks cs = some (pl, ns, ss, mr) →
      ∃ b mv rd, (expR 6 a).run σ = some (b, mv, rd) ∧ RR0 ag ks pl b ∧ Picks m ns ss mv rd ∧ ∀ n ∈ ns, τ.getO n ≠ none := by
    intro v a ag' cs hv hc hag he
    obtain ⟨b, mv, rd, h1, h2, h3, h4⟩ := exp_val h hv hc he
    refine ⟨b, mv, rd, h1, ?_, h3, h4⟩
    obtain ⟨ha1, ha2⟩ := hag
    subst ha2
    cases ag with
    | ptr => exact absurd rfl ha1
    | agg => simpa [RR0] using h2
    | one => simpa [RR0] using h2
  cases r with
  | t n =>
    have hn := h.tm n
    cases ag with
    | ptr =>
      simp only [resT] at he
      split at he
      · rename_i d _ eg
        rw [eg] at hn
        split at he
        · rename_i cs s1 ho
          simp only [Option.map_eq_some_iff] at he
          obtain ⟨⟨pl', ns', ss', mr'⟩, ee, he⟩ := he
          cases he
          obtain ⟨_, hn⟩ := hn
          simp only [List.cons.injEq, and_true] at hn
          obtain ⟨⟨st, e, c, x, k1, k2, k3⟩, k4, k5⟩ := h.ob d _ ho
          have hx := k2.cellsOK k3
          obtain ⟨bs, mv, rd, h1, h2, h3, h4, h5, h6⟩ := expF_ok h (f := 4) (K := oKeys (nameKeys τ ns' ++ ss)) hx ee (fun z hz => hz)
          refine ⟨σ.getT n, .inout bs, m d :: mv, rd, rfl, ?_, ⟨bs, rfl, h2⟩, .mvN d h3, fun y hy => ?_⟩
          · rw [hn, k1]
            have hz := k4 rfl
            show ((theObj (m d) st).bind fun o => (frz (m d)).bind fun z => match o.xs, 0, 0 with
              | [x], 0, 0 => if o.var && !z then (mapE (expR 5) x.cells).bind fun q => R.ret (AV.inout q.1, m d :: q.2.1, q.2.2) else .fail
              | _, _, _ => .fail).run σ = _
            rw [R.run_bind, (Does.theObj (K := oKeys [m d]) (oKeys_o (by simp)) k1).1, Option.bind_some, R.run_bind, (Does.frz (K := oKeys [m d]) (σ := σ) (d := m d) (oKeys_f (by simp))).1, Option.bind_some]
            simp only [hz, Bool.not_false, Bool.and_self, if_true]
            rw [R.run_bind, h1.1]; rfl
          · simp only [List.mem_cons] at hy
            rcases hy with rfl | hy
            · rw [ho]; simp
            · exact h5 y hy
        · cases he
      · split at he
        · split at he
          · rename_i hh
            exact absurd rfl hh.1
          · cases he
        · cases he
    | agg =>
      simp only [resT] at he
      split at he
      · rename_i ag' cs ec
        split at he
        · rename_i hh
          obtain ⟨b, mv, rd, q⟩ := fin hn ec hh he
          exact ⟨_, b, mv, rd, rfl, q⟩
        · cases he
      · cases he
    | one =>
      simp only [resT] at he
      split at he
      · rename_i ag' cs ec
        split at he
        · rename_i hh
          obtain ⟨b, mv, rd, q⟩ := fin hn ec hh he
          exact ⟨_, b, mv, rd, rfl, q⟩
        · cases he
      · cases he
  | cell a n agg =>
    have hn := h.tm a
    simp only [resT] at he
    split at he
    · rename_i d off eg
      rw [eg] at hn
      obtain ⟨_, hn⟩ := hn
      simp only [List.cons.injEq, and_true] at hn
      split at he
      · rename_i g cs fz s1 ho
        split at he
        · rename_i cs1 e1
          split at he
          · rename_i v e2
            split at he
            · rename_i ag' cs2 ec
              split at he
              · rename_i hh
                obtain ⟨⟨st, e, c, x, k1, k2, k3⟩, k4, k5⟩ := h.ob d _ ho
                have hx := k2.cellsOK k3
                obtain ⟨a1, a2⟩ := hx.dropW e1
                obtain ⟨v', hv', hd'⟩ := load_ok (K := []) a1 e2
                obtain ⟨b, mv, rd, q⟩ := fin hv' ec hh he
                refine ⟨v', b, mv, rd, ?_, q⟩
                have h0 : (theObj (m d) (σ.getO (m d)).st).run σ = some ⟨e, [x], true, c⟩ := by
                  rw [k1]; exact (Does.theObj (K := oKeys [m d]) (oKeys_o (by simp)) k1).1
                simp only [RRes.get, ROp.sem, Opnd.get, R.run_bind, R.run, Option.bind_some, hn, h0, List.getElem?_cons_zero]
                exact congrArg (fun z : Option (AV × List W) => z.bind fun a => some a.1) hd'.1
              · cases he
            · cases he
          · cases he
        · cases he
      · cases he
    · cases he
end
end Go.Vm
/- End of a function: all results, the arguments, the whole. -/
namespace Go.Vm
section
variable {τ : TState} {σ : State} {m : Nat → Slot}

/-- Nil lists made empty ones. -/
theorem RR0.toRR {ag : RTag} {ks : List RK} {pl : List DP} {b : AV} {sh : Shape} (h : RR0 ag ks pl b) (hs : ag = .ptr ∨ (sh = ks.flatMap (fun k => k.ty.shape) ∧ ks.all RK.okW = true)) : RR ag ks pl (nf sh b) := by
  cases ag with
  | ptr =>
    obtain ⟨as, rfl, h⟩ := h
    refine ⟨as, ?_, h⟩
    simp only [nf]
    cases sh.headD none <;> rfl
  | agg =>
    obtain ⟨as, rfl, h⟩ := h
    rcases hs with hs | ⟨rfl, hw⟩
    · cases hs
    · exact ⟨_, rfl, h.nf hw⟩
  | one =>
    rcases hs with hs | ⟨rfl, hw⟩
    · cases hs
    · have h1 := KRs.nf h hw
      have hl := KRs.length h
      have hsl : (ks.flatMap fun k => k.ty.shape).length = 1 := by
        rw [List.length_flatMap]
        have : (ks.map fun k => k.ty.shape.length) = ks.map fun k => k.ty.width := by
          congr 1; funext k; exact k.ty.len_shape
        rw [this, ← hl]; rfl
      obtain ⟨s, hs⟩ := List.length_eq_one_iff.1 hsl
      show KRs true ks pl [nf _ b]
      rw [hs] at h1 ⊢
      simp only [nfL] at h1
      have hb : ∀ cs, b ≠ .agg cs := by
        rintro cs rfl
        exact noagg h
      have : nf [s] b = nf1 s b := by
        cases b <;> first | rfl | exact absurd rfl (hb _)
      rw [this]; exact h1
  where
  noagg : ∀ {bb : Bool} {ks : List RK} {pl : List DP} {cs : List AV}, ¬ KRs bb ks pl [.agg cs]
    | bb, [], pl, cs, ⟨_, h⟩ => by cases h
    | bb, k :: ks, pl, cs, ⟨p, pr, q, r, h1, h2, h3, h4⟩ => by
      cases q with
      | nil =>
        simp only [List.nil_append] at h2
        subst h2
        exact noagg h4
      | cons x q =>
        simp only [List.cons_append, List.cons.injEq] at h2
        obtain ⟨rfl, _⟩ := h2
        cases k with
        | v t =>
          obtain ⟨y, _, h3⟩ := h3
          have := t.cells_leaf y (.agg cs) (by rw [← h3]; simp)
          cases this
        | lst e =>
          obtain ⟨l, _, a, h3, h5⟩ := h3
          simp only [List.cons.injEq] at h3
          obtain ⟨rfl, _⟩ := h3
          rcases h5 with h5 | h5 | ⟨_, _, h5⟩ <;> cases h5
        | own e =>
          obtain ⟨l, _, a, h3, h5⟩ := h3
          simp only [List.cons.injEq] at h3
          obtain ⟨rfl, _⟩ := h3
          rcases h5 with h5 | ⟨_, _, h5⟩ <;> cases h5

theorem ressT_ok (h : Rel m τ σ) : ∀ {rs : List (RTag × List RK)} {fs : List (RRes × Shape)} {pl : List DP} {ns : List Nat} {ss mr : List Slot}, ressT τ rs fs = some (pl, ns, ss, mr) →
    ∃ vs bs mv rd, (mapR (fun (r : RRes × Shape) => r.1.get) fs).run σ = some vs ∧ (mapE (expR 6) vs).run σ = some (bs, mv, rd) ∧ RRs rs pl (shapes (fs.map (·.2)) bs) ∧ Picks m ns ss mv rd ∧ (∀ n ∈ ns, τ.getO n ≠ none) ∧
      ∀ d ∈ sureR τ fs, (∃ e l cap s1, τ.getO d = some (.sl e l cap false s1)) → m d ∈ mv
  | [], [], pl, ns, ss, mr, he => by
    simp only [ressT] at he; cases he
    exact ⟨[], [], [], [], rfl, rfl, ⟨rfl, rfl⟩, .nil, by simp, by simp [sureR]⟩
  | [], _ :: _, _, _, _, _, he => by simp [ressT] at he
  | _ :: _, [], _, _, _, _, he => by simp [ressT] at he
  | (ag, ks) :: rs, (r, sh) :: fs, pl, ns, ss, mr, he => by
    simp only [ressT] at he
    split at he
    · rename_i a b c d x y z w e1 e2
      split at he
      · rename_i hs
        cases he
        obtain ⟨v, u, mv, rd, g1, g2, g3, g4, g5⟩ := resT_ok h e1
        obtain ⟨vs, bs, mv', rd', k1, k2, k3, k4, k5, k6⟩ := ressT_ok h e2
        refine ⟨v :: vs, u :: bs, mv ++ mv', rd ++ rd', ?_, ?_, ⟨_, _, _, _, rfl, rfl, ?_, k3⟩, g4.append k4, fun n hn => ?_, fun d hd ho => ?_⟩
        · simp only [mapR, R.run_bind, g1, Option.bind_some, k1, R.run_ret]
        · simp only [mapE, R.run_bind, g2, Option.bind_some, k2, R.run_ret]
        · exact g3.toRR hs
        · exact (List.mem_append.1 hn).elim (g5 n) (k5 n)
        · have tailC : d ∈ sureR τ fs → m d ∈ mv ++ mv' := fun hd => List.mem_append_right _ (k6 d hd ho)
          cases r with
          | cell => exact tailC hd
          | t n =>
            simp only [sureR, List.mem_append] at hd
            rcases hd with hd | hd
            · refine List.mem_append_left _ ?_
              obtain ⟨e, l, cap, s1, ho⟩ := ho
              have hn := h.tm n
              have hv : v = σ.getT n := by
                simp only [RRes.get, R.run] at g1
                exact (Option.some.injEq _ _ ▸ g1).symm
              subst hv
              split at hd
              · rename_i c eg
                rw [eg] at hn
                cases c with
                | own d' w' mn' =>
                  cases mn' with
                  | true => cases hd
                  | false =>
                    simp only [sureC, List.mem_cons, List.not_mem_nil, or_false] at hd
                    subst hd
                    obtain ⟨a, ha, hn⟩ := hn
                    simp only [List.cons.injEq, and_true] at ha
                    obtain ⟨b', hb'⟩ := own_sure h (f := 5) hn ho
                    rw [← ha, g2] at hb'
                    cases hb'
                    simp
                | _ => cases hd
              · rename_i cs eg
                rw [eg] at hn
                obtain ⟨as, ea, hn⟩ := hn
                rw [ea] at g2
                have g2' : ((mapE (expR 5) as).bind fun q => R.ret (AV.agg q.1, q.2)).run σ = some (u, mv, rd) := g2
                rw [R.run_bind] at g2'
                cases e3 : (mapE (expR 5) as).run σ with
                | none => rw [e3] at g2'; cases g2'
                | some q =>
                  rw [e3] at g2'
                  simp only [Option.bind_some, R.run_ret, Option.some.injEq, Prod.mk.injEq] at g2'
                  obtain ⟨_, g6⟩ := g2'
                  obtain ⟨c, hc, hd⟩ := List.mem_flatMap.1 hd
                  cases c with
                  | own d' w' mn' =>
                    cases mn' with
                    | true => cases hd
                    | false =>
                      simp only [sureC, List.mem_cons, List.not_mem_nil, or_false] at hd
                      subst hd
                      obtain ⟨a, ha, hr⟩ := memRC hn hc
                      obtain ⟨b', hb'⟩ := own_sure h (f := 4) hr ho
                      have := mapE_mem hb' (bs := q.1) (mv := q.2.1) (rd := q.2.2) e3 ha (m d) (by simp)
                      rw [g6] at this
                      exact this
                  | _ => cases hd
              · cases hd
            · exact tailC hd
      · cases he
    · cases he
  where
  memRC : ∀ {cs : List TC} {as : List AV} {d : Nat} {w : Option (Nat × Nat)} {mn : Bool}, RCs τ σ m cs as → TC.own d w mn ∈ cs → ∃ a ∈ as, OwnR τ σ m d w mn a
    | [], _, _, _, _, _, hm => by cases hm
    | c :: cs, as, d, w, mn, ⟨p, q, h1, h2, h3⟩, hm => by
      subst h1
      simp only [List.mem_cons] at hm
      rcases hm with rfl | hm
      · obtain ⟨a, rfl, h2⟩ := h2
        exact ⟨a, by simp, h2⟩
      · obtain ⟨a, ha, h4⟩ := memRC h3 hm
        exact ⟨a, by simp [ha], h4⟩
end
end Go.Vm
/- End of a function: the arguments. -/
namespace Go.Vm
section
variable {τ : TState} {σ : State} {m : Nat → Slot}

theorem KRs.plen : ∀ {b : Bool} {ks : List RK} {ps : List DP} {as : List AV}, KRs b ks ps as → ps.length = ks.length
  | _, [], ps, as, ⟨h, _⟩ => by rw [h]; rfl
  | _, k :: ks, ps, as, ⟨p, pr, q, r, h1, h2, h3, h4⟩ => by rw [h1, List.length_cons, KRs.plen h4]; rfl
theorem roRs.plen : ∀ {ts : List Ty} {ps : List DP} {as : List AV}, roRs ts ps as → ps.length = ts.length
  | [], ps, as, ⟨h, _⟩ => by rw [h]; rfl
  | t :: ts, ps, as, ⟨x, pr, fs, r, as', h1, h2, h3, h4⟩ => by rw [h1, List.length_cons, roRs.plen h4]; rfl
theorem AR.plen {a : AT} {p : List DP} {x : AV} (h : AR a p x) : p.length = a.pts.length := by
  cases a with
  | val t => obtain ⟨y, rfl, _⟩ := h; rfl
  | io cin cout => obtain ⟨as, _, h⟩ := h; rw [h.plen]; simp [AT.pts, rkPT]
  | own e b => obtain ⟨l, rfl, _⟩ := h; rfl
  | oagg ks => obtain ⟨as, _, h⟩ := h; rw [h.plen]; simp [AT.pts, rkPT]
  | ro t => have := roRs.plen h; rw [this]; rfl
  | fn g fs cs =>
    obtain ⟨x, y, p1, p2, rfl, _, h1, h2⟩ := h
    rw [List.length_append, h1.plen, h2.plen]; simp [AT.pts]
theorem ownLens_skip {a : AT} {as : List AT} {p1 p2 : List DP} (h : p1.length = a.pts.length) (ha : ∀ e b, a ≠ .own e b) : ownLens (a :: as) (p1 ++ p2) = ownLens as p2 := by
  cases a with
  | own e b => exact absurd rfl (ha e b)
  | _ => simp only [ownLens]; rw [← h, List.drop_left]

theorem slot_of (h : Rel m τ σ) {d : Nat} {o : TO} (ho : τ.getO d = some o) (ha : τ.at_ d = [d]) : m d = d := by
  have := h.at_ d (by rw [ho]; simp)
  rw [ha] at this
  simpa using this

theorem leaveT_ok (h : Rel m τ σ) {tk : List Slot} {taken sure : List Nat} (hS : ∀ d ∈ sure, (∃ e l cap s1, τ.getO d = some (.sl e l cap false s1)) → m d ∈ tk) : ∀ {as : List AT} {t : Nat} {args : List AV} {pl0 pl : List DP} {nsN : List Nat} {ss : List Slot} {q : List (Nat × Nat)},
    leaveT τ taken sure t as (ownLens as pl0) = some (pl, nsN, ss, q) → ARs as pl0 args → (∀ p ∈ q, p.1 = p.2) → (∀ d ∈ nsN, d ∉ taken → τ.at_ d = [d] → d ∉ tk) →
    ∃ bs mv rd, (leaveR tk t args).run σ = some (bs, mv, rd) ∧ BRs as args pl bs ∧ Picks m nsN ss mv rd ∧ ∀ n ∈ nsN, τ.getO n ≠ none
  | [], t, args, pl0, pl, nsN, ss, q, he, ⟨h1, h2⟩, _, _ => by
    subst h1 h2
    simp only [leaveT] at he; cases he
    exact ⟨[], [], [], rfl, ⟨rfl, rfl, rfl⟩, .nil, by simp⟩
  | a :: as, t, args, pl0, pl, nsN, ss, q, he, ⟨p1, p2, x, args', h1, h2, h3, h4⟩, hq, hT => by
    subst h1 h2
    -- nothing comes back
    have skip : (∀ e b, a ≠ .own e b) → (∀ c d, a ≠ .io c d) → (∀ cs, x ≠ .inout cs) → (∀ e xs, x ≠ .fresh e xs) → leaveT τ taken sure (t + 1) as (ownLens as p2) = some (pl, nsN, ss, q) →
        ∃ bs mv rd, (leaveR tk t (x :: args')).run σ = some (bs, mv, rd) ∧ BRs (a :: as) (x :: args') pl bs ∧ Picks m nsN ss mv rd ∧ ∀ n ∈ nsN, τ.getO n ≠ none := by
      intro n1 n2 n3 n4 he
      obtain ⟨bs, mv, rd, g1, g2, g3, g4⟩ := leaveT_ok h hS he h4 hq hT
      refine ⟨none :: bs, mv, rd, ?_, ⟨x, args', [], pl, none, bs, rfl, rfl, rfl, ?_, g2⟩, g3, g4⟩
      · have : leaveR tk t (x :: args') = (leaveR tk (t + 1) args').bind fun r => .ret (none :: r.1, r.2) := by
          cases x <;> first | rfl | exact absurd rfl (n3 _) | exact absurd rfl (n4 _ _)
        rw [this, R.run_bind, g1]; rfl
      · cases a with
        | io c d => exact absurd rfl (n2 c d)
        | own e b => exact absurd rfl (n1 e b)
        | _ => exact ⟨rfl, rfl⟩
    cases a with
    | val ty =>
      rw [ownLens_skip (AR.plen h3) (by simp)] at he
      obtain ⟨y, rfl, rfl⟩ := h3
      have hx : ∀ (P : AV → Prop), (∀ a, a.leaf = true → P a) → (∀ cs, P (.agg cs)) → P (ty.enc y) := by
        intro P hp1 hp2
        unfold Ty.enc enc1
        cases ho : ty.one with
        | false => simp only [Bool.false_eq_true, if_false]; exact hp2 _
        | true =>
          obtain ⟨w, hw1, hw2⟩ := Ty.one_cells ho y
          simp only [if_true, hw1, List.headD_cons]
          exact hp1 w hw2
      refine skip (by simp) (by simp) (fun cs => hx (· ≠ .inout cs) (fun a ha e => by rw [e] at ha; cases ha) (by simp)) (fun e xs => hx (· ≠ .fresh e xs) (fun a ha e => by rw [e] at ha; cases ha) (by simp)) ?_
      simpa only [leaveT] using he
    | oagg ks =>
      rw [ownLens_skip (AR.plen h3) (by simp)] at he
      obtain ⟨as', rfl, _⟩ := h3
      exact skip (by simp) (by simp) (by simp) (by simp) (by simpa only [leaveT] using he)
    | ro ty =>
      rw [ownLens_skip (AR.plen h3) (by simp)] at he
      obtain ⟨y, pr, fs, r, as', _, h6, _, h7, h8⟩ := h3
      subst h8
      simp only [List.cons.injEq, and_true] at h6
      subst h6
      exact skip (by simp) (by simp) (by simp) (by simp) (by simpa only [leaveT] using he)
    | fn g fs cs =>
      rw [ownLens_skip (AR.plen h3) (by simp)] at he
      obtain ⟨ax, ay, _, _, _, rfl, _, _⟩ := h3
      exact skip (by simp) (by simp) (by simp) (by simp) (by simpa only [leaveT] using he)
    | io cin cout =>
      rw [ownLens_skip (AR.plen h3) (by simp)] at he
      obtain ⟨xs, rfl, _⟩ := h3
      simp only [leaveT] at he
      split at he
      · rename_i cs ho
        split at he
        · cases he
        · rename_i hat
          have hat' : τ.at_ (64 * t) = [64 * t] := by simpa using hat
          split at he
          · rename_i a b c mr x y z q' e1 e2
            cases he
            have hm := slot_of h ho hat'
            obtain ⟨⟨st, e, cp, v, k1, k2, k3⟩, k4, k5⟩ := h.ob (64 * t) _ ho
            rw [hm] at k1 k4 k5
            have hx := k2.cellsOK k3
            obtain ⟨bs1, mv1, rd1, r1, r2, r3, r4, r5, r6⟩ := expF_ok h (f := 4) (K := oKeys (nameKeys τ b ++ c)) hx e1 (fun z hz => hz)
            obtain ⟨bs, mv, rd, g1, g2, g3, g4⟩ := leaveT_ok h hS e2 h4 hq (fun d hd => hT d (by simp [hd]))
            have hst : st = 1 := by have := k5 rfl; rw [k1] at this; exact this
            subst hst
            have hexp : (expR 6 (.ref (64 * t) 1 0 0)).run σ = some (.inout bs1, 64 * t :: mv1, rd1) := by
              have hz := k4 rfl
              show ((theObj (64 * t) 1).bind fun o => (frz (64 * t)).bind fun z => match o.xs, 0, 0 with
                | [x], 0, 0 => if o.var && !z then (mapE (expR 5) x.cells).bind fun q => R.ret (AV.inout q.1, 64 * t :: q.2.1, q.2.2) else .fail
                | _, _, _ => .fail).run σ = _
              rw [R.run_bind, (Does.theObj (K := oKeys [64 * t]) (oKeys_o (by simp)) k1).1, Option.bind_some, R.run_bind, (Does.frz (K := oKeys [64 * t]) (σ := σ) (d := 64 * t) (oKeys_f (by simp))).1, Option.bind_some]
              simp only [hz, Bool.not_false, Bool.and_self, if_true]
              rw [R.run_bind, r1.1]; rfl
            refine ⟨some (.inout bs1) :: bs, (64 * t :: mv1) ++ mv, rd1 ++ rd, ?_, ⟨_, _, _, _, _, _, rfl, rfl, rfl, ⟨bs1, rfl, r2⟩, g2⟩, ?_, fun n hn => ?_⟩
            · simp only [leaveR, R.run, k1, BEq.rfl, if_true, R.run_bind]
              rw [show (expR depth (.ref (64 * t) 1 0 0)).run σ = some (.inout bs1, 64 * t :: mv1, rd1) from hexp]
              simp only [Option.bind_some, g1]
            · have := Picks.mvN (m := m) (64 * t) (r3.append g3)
              rw [hm] at this
              exact this
            · simp only [List.cons_append, List.mem_cons, List.mem_append] at hn
              rcases hn with rfl | hn | hn
              · rw [ho]; simp
              · exact r5 n hn
              · exact g4 n hn
          · cases he
      · cases he
    | own e back =>
      obtain ⟨l0, rfl, rfl⟩ := h3
      simp only [dpl, List.cons_append, List.nil_append, ownLens] at he
      cases back with
      | true =>
        simp only [leaveT] at he
        split at he
        · rename_i e' l cap n ns' ho hns
          simp only [List.cons.injEq] at hns
          obtain ⟨rfl, rfl⟩ := hns
          split at he
          · rename_i hh
            obtain ⟨rfl, htk, hat⟩ := hh
            split at he
            · rename_i x y z q' e2
              cases he
              have hm := slot_of h ho hat
              obtain ⟨hsl, hs1⟩ := h.ob (64 * t) _ ho
              rcases hsl with hsl | ⟨_, hf⟩
              · obtain ⟨⟨st, c, k1, k2, _⟩, k4⟩ := hsl
                rw [hm] at k1 k4 hs1
                have hst : st = 1 := by have := hs1 rfl; rw [k1] at this; exact this
                subst hst
                have hlen : l0.length = l.length := hq (l0.length, l.length) (by simp)
                obtain ⟨bs, mv, rd, g1, g2, g3, g4⟩ := leaveT_ok h hS e2 h4 (fun p hp => hq p (by simp [hp])) (fun d hd => hT d (by simp [hd]))
                have hnt : 64 * t ∉ tk := hT (64 * t) (by simp) (by simpa using htk) hat
                have hz := k4 rfl
                refine ⟨some (.fresh e'.width (l.map e'.enc)) :: bs, 64 * t :: mv, rd, ?_, ⟨_, _, _, _, _, _, rfl, rfl, rfl, ⟨l, l0, rfl, rfl, rfl, hlen.symm⟩, g2⟩, ?_, fun n hn => ?_⟩
                · have hnt' : tk.contains (64 * t) = false := by simpa using hnt
                  simp only [leaveR, R.run, k1, BEq.rfl, hnt', List.length_map, hlen, Bool.not_false, Bool.and_self, if_true, frz, R.bind, hz, Bool.false_eq_true, if_false, R.run_bind, g1, Option.bind_some]
                · have := Picks.mvN (m := m) (64 * t) g3
                  rw [hm] at this
                  exact this
                · simp only [List.mem_cons] at hn
                  rcases hn with rfl | hn
                  · rw [ho]; simp
                  · exact g4 n hn
              · cases hf
            · cases he
          · cases he
        · cases he
      | false =>
        simp only [leaveT] at he
        have go : leaveT τ taken sure (t + 1) as (ownLens as p2) = some (pl, nsN, ss, q) → ((∃ st, σ.getO (64 * t) = ⟨st, none⟩) ∨ 64 * t ∈ tk) →
            ∃ bs mv rd, (leaveR tk t (.fresh e.width (l0.map e.enc) :: args')).run σ = some (bs, mv, rd) ∧ BRs (.own e false :: as) (.fresh e.width (l0.map e.enc) :: args') pl bs ∧ Picks m nsN ss mv rd ∧ ∀ n ∈ nsN, τ.getO n ≠ none := by
          intro he hw
          obtain ⟨bs, mv, rd, g1, g2, g3, g4⟩ := leaveT_ok h hS he h4 hq hT
          refine ⟨none :: bs, mv, rd, ?_, ⟨_, _, [], pl, none, bs, rfl, rfl, rfl, ⟨rfl, rfl⟩, g2⟩, g3, g4⟩
          simp only [leaveR, R.run]
          split
          · rename_i o eo
            rcases hw with ⟨st, hw⟩ | hw
            · rw [hw] at eo; cases eo
            · have : tk.contains (64 * t) = true := by simpa using hw
              simp only [this, Bool.not_true, Bool.and_false, Bool.false_and, Bool.false_eq_true, if_false, R.run_bind, g1, Option.bind_some, R.run_ret]
          · simp only [R.run_bind, g1, Option.bind_some, R.run_ret]
        split at he
        · rename_i n ns' ho hns
          simp only [List.cons.injEq] at hns
          obtain ⟨_, rfl⟩ := hns
          split at he
          · rename_i hat
            have hm := slot_of h ho hat
            have := h.ob (64 * t) _ ho
            rw [hm] at this
            refine go he (.inl ⟨(σ.getO (64 * t)).st, ?_⟩)
            have h0 : (σ.getO (64 * t)).obj = none := this
            rw [← h0]
          · cases he
        · rename_i e' l cap n ns' ho hns
          simp only [List.cons.injEq] at hns
          obtain ⟨_, rfl⟩ := hns
          split at he
          · rename_i hh
            have hm := slot_of h ho hh.2
            refine go he (.inr ?_)
            have := hS (64 * t) (by simpa using hh.1) ⟨_, _, _, _, ho⟩
            rwa [hm] at this
          · cases he
        · cases he
end
end Go.Vm
/- Functions. -/
namespace Go.Vm
section
variable {τ : TState} {σ : State} {m : Nat → Slot}

theorem foldr_req {ρ : Type} {r x : ρ} : ∀ {q : List (Nat × Nat)}, (q.foldr (fun p t => Tree.req (p.1 = p.2) inferInstance t) (.ret x)).den = some r → (∀ p ∈ q, p.1 = p.2) ∧ x = r
  | [], h => by
    simp only [List.foldr_nil, Tree.den, Option.some.injEq] at h
    exact ⟨by simp, h⟩
  | p :: q, h => by
    simp only [List.foldr_cons] at h
    obtain ⟨h1, h2⟩ := Tree.den_req h
    obtain ⟨h3, h4⟩ := foldr_req h2
    refine ⟨fun y hy => ?_, h4⟩
    simp only [List.mem_cons] at hy
    rcases hy with rfl | hy
    · exact h1
    · exact h3 y hy

theorem finish_ok (h : Rel m τ σ) {F : RFunc} {sig : Sig} {pl : List DP} {args : List AV} {r : pd sig.rpt} (hd : (finishT F sig (ownLens sig.args pl) τ).den = some r) (ha : ARs sig.args pl args) :
    ∃ vs bs p1 p2, (finish F args).run σ = some ⟨tupA vs, bs⟩ ∧ pd.to sig.rpt r = p1 ++ p2 ∧ RRs sig.res p1 vs ∧ BRs sig.args args p2 bs := by
  unfold finishT at hd
  split at hd
  · cases hd
  · rename_i a b c mr e1
    split at hd
    · cases hd
    · rename_i x y z q e2
      split at hd
      · rename_i hc
        simp only [Bool.and_eq_true] at hc
        obtain ⟨⟨hc1, hc2⟩, hc3⟩ := hc
        split at hd
        · rename_i r' er
          obtain ⟨hq, rfl⟩ := foldr_req hd
          obtain ⟨vs, bs, mv, rd, g1, g2, g3, g4, g5, g6⟩ := ressT_ok h e1
          obtain ⟨cs, mv', rd', k1, k2, k3, k4⟩ := leaveT_ok h (tk := mv) g6 e2 ha hq (fun d hd hdt hat hm => by
            have hd0 : τ.getO d ≠ none := by
              intro e
              have : τ.at_ d = [] := by
                unfold TState.getO at e
                unfold TState.at_
                cases e3 : lookT d τ.ob with
                | none => rfl
                | some p => rw [e3] at e; cases e
              rw [this] at hat; cases hat
            have hmd : m d = d := by
              have := h.at_ d hd0
              rw [hat] at this
              simpa using this
            rcases g4.mem d (List.mem_append_left _ hm) with ⟨n, hn, e⟩ | hs
            · by_cases hnd : n = d
              · subst hnd; exact hdt hn
              · exact h.inj n d hnd (g5 n hn) hd0 (by rw [hmd]; exact e.symm)
            · refine disjL_spec hc3 d ?_ (List.mem_append_left _ hs)
              rw [nameKeys_append]
              refine List.mem_append_right _ (List.mem_flatMap.2 ⟨d, hd, ?_⟩)
              rw [hat]; simp)
          have hpk := g4.append k3
          have hnm : ∀ n ∈ b ++ y, τ.getO n ≠ none := fun n hn => (List.mem_append.1 hn).elim (g5 n) (k4 n)
          have hN := hpk.nodup (nodupN_spec hc1) (nodupN_spec hc2) (fun a ha b hb hab => h.inj a b hab (hnm a ha) (hnm b hb)) (fun a ha hm => disjL_spec hc3 (m a) (List.mem_flatMap.2 ⟨a, ha, h.at_ a (hnm a ha)⟩) hm)
          have hN' := List.nodup_append.1 hN
          have hall : (rd ++ rd').all (fun d => !(mv ++ mv').contains d) = true := by
            rw [List.all_eq_true]
            intro s hs
            simp only [Bool.not_eq_true', List.contains_eq_mem, decide_eq_false_iff_not]
            intro hm
            exact hN'.2.2 s hm s hs rfl
          refine ⟨_, cs, a, x, ?_, pd.to_of er, g3, k2⟩
          unfold finish
          rw [R.run_bind, g1, Option.bind_some, R.run_bind, show (expL depth vs).run σ = some (bs, mv, rd) from g2, Option.bind_some, R.run_bind, k1, Option.bind_some]
          simp only [nodup_of hN'.1, hall, Bool.and_self, if_true, R.run_ret]
        · cases hd
      · cases hd

/-- A function's run answers as the typed run says. -/
theorem run_ok {orc : Oracle} {E : TEnv} (hE : EnvOK orc E) (hL : LoopOK orc) {F : RFunc} {sig : Sig} {x : pd sig.apt} {r : pd sig.rpt} {args : List AV} (hd : (runT E F sig x).den = some r) (ha : ARs sig.args (pd.to sig.apt x) args) :
    ∃ vs bs p1 p2, callFn orc F args = some ⟨tupA vs, bs⟩ ∧ pd.to sig.rpt r = p1 ++ p2 ∧ RRs sig.res p1 vs ∧ BRs sig.args args p2 bs := by
  unfold runT at hd
  split at hd
  · rename_i hh
    split at hd
    · rename_i vs os es
      have hal : args.length = F.np := by
        obtain ⟨h1, _⟩ := entry_ok es ha args.length (Nat.le_refl _)
        rw [h1, hh.1]
      obtain ⟨h1, σ0, h2, h3⟩ := entry_ok es ha F.nt (by omega)
      rw [hal] at h3
      obtain ⟨e, σ1, τ1, m1, g1, g2, g3⟩ := exec_ok hE hL F.body h3 hd
      have fin : (finishT F sig (ownLens sig.args (pd.to sig.apt x)) τ1).den = some r → (e = .normal ∨ e = .ret) → ∃ vs bs p1 p2, callFn orc F args = some ⟨tupA vs, bs⟩ ∧ pd.to sig.rpt r = p1 ++ p2 ∧ RRs sig.res p1 vs ∧ BRs sig.args args p2 bs := by
        intro hf he
        obtain ⟨ws, bs, p1, p2, k1, k2, k3, k4⟩ := finish_ok g2 hf ha
        refine ⟨ws, bs, p1, p2, ?_, k2, k3, k4⟩
        unfold callFn
        rw [if_pos ⟨hal, hh.2⟩, h2]
        rcases he with rfl | rfl
        · simp only [g1]; exact k1
        · simp only [g1]; exact k1
      cases e with
      | normal => exact fin g3 (.inl rfl)
      | ret => exact fin g3 (.inr rfl)
      | exit id => cases g3
    · cases hd
  · cases hd

theorem loopOK_lim (S : Sys) : LoopOK S.lim := by
  intro a σ e σ' h
  refine ⟨fun he x hx => ?_, fun he => ?_⟩
  · subst he
    apply lim_of_step
    simp only [Sys.step, norm, h]
    exact hx
  · apply lim_of_step
    cases e with
    | normal => exact absurd rfl he
    | exit id => simp only [Sys.step, norm, h]
    | ret => simp only [Sys.step, norm, h]

theorem fn_ok {S : Sys} {E : TEnv} (hE : EnvOK S.lim E) {g : Nat} {F : RFunc} (hp : S.prim g = none) (hf : S.fn g = some F) {sig : Sig} {f : pd sig.apt → Option (pd sig.rpt)} (hr : ∀ x y, f x = some y → (runT E F sig x).den = some y) : FnOK S.lim g ⟨sig, f⟩ := by
  intro x y args ha hxy
  obtain ⟨vs, bs, p1, p2, h1, h2⟩ := run_ok hE (loopOK_lim S) (hr x y hxy) ha
  refine ⟨vs, bs, p1, p2, ?_, h2⟩
  apply lim_of_step
  simp only [Sys.step, hp, hf, h1, Option.map_some]
end
end Go.Vm
/- What is read of a law's arguments. -/
namespace Go.Vm

/-- The last field. -/
def lastF (P : Program) (w : Nat) (one : TypeId → Bool) (fs : List Field) (o : Nat) : Bool := match fs with
  | [f] => f.offset == o && P.cellsOf f.type == w && one f.type
  | _ => false
/-- A type of the program, or a row of fields, is this one. -/
def Ty.fit (P : Program) : Ty → (TypeId → Bool) × (List Field → Nat → Bool)
  | .int k =>
    let f := fun t => match P.underlying t with
      | some (.int k') => decide (k' = k)
      | _ => false
    (f, lastF P 1 f)
  | .bool =>
    let f := fun t => match P.underlying t with
      | some .bool => true
      | _ => false
    (f, lastF P 1 f)
  | .str =>
    let f := fun t => match P.underlying t with
      | some .string => true
      | _ => false
    (f, lastF P 1 f)
  | .list e =>
    let f := fun t => match P.underlying t with
      | some (.slice u) => (e.fit P).1 u && P.cellsOf u == e.width && e.width != 0
      | _ => false
    (f, lastF P 1 f)
  | .st b =>
    let f := fun t => match P.underlying t with
      | some (.struct fs) => P.cellsOf t == b.width && (b.fit P).2 fs.toList 0
      | _ => false
    (f, lastF P b.width f)
  | .arr n e =>
    let f := fun t => match P.underlying t with
      | some (.array m u) => m == n && (e.fit P).1 u && P.cellsOf u == e.width && P.cellsOf t == n * e.width
      | _ => false
    (f, lastF P (n * e.width) f)
  | .pair a b => (fun _ => false, fun fs o => match fs with
    | f :: fs => f.offset == o && P.cellsOf f.type == a.width && (a.fit P).1 f.type && (b.fit P).2 fs (o + a.width)
    | [] => false)

def Ty.Good : (t : Ty) → t.D → Prop
  | .int k, n => (Lit.int k n).wf = true
  | .bool, _ => True
  | .str, s => s.length ≤ maxLen
  | .list e, l => l.length ≤ maxLen ∧ ∀ x ∈ l, e.Good x
  | .st b, x => b.Good x
  | .pair a b, x => a.Good x.1 ∧ b.Good x.2
  | .arr _ e, l => ∀ x ∈ l.1, e.Good x

def memW (w : World) : Mem := fun b k => w.cell? ⟨b, k, none⟩

/-- Cells of a value. -/
def CsRV (φ : Phi) (w : World) (as : List AV) (vs : List Value) : Prop :=
  as.length = vs.length ∧ ∀ (j : Nat) (a : AV) (v : Value), as[j]? = some a → vs[j]? = some v → RV φ (memW w) a v

section
variable {φ : Phi} {w : World}
theorem CsRV.nil : CsRV φ w [] [] := ⟨rfl, fun j a v h => by simp at h⟩
theorem CsRV.one {a : AV} {v : Value} (h : RV φ (memW w) a v) : CsRV φ w [a] [v] := ⟨rfl, fun j b u h1 h2 => by
  cases j with
  | zero => simp at h1 h2; subst h1 h2; exact h
  | succ j => simp at h1⟩
theorem CsRV.append {a b : List AV} {x y : List Value} (h : CsRV φ w a x) (k : CsRV φ w b y) : CsRV φ w (a ++ b) (x ++ y) := by
  refine ⟨by simp [h.1, k.1], fun j c v h1 h2 => ?_⟩
  by_cases hj : j < a.length
  · rw [List.getElem?_append_left hj] at h1
    rw [List.getElem?_append_left (by rw [← h.1]; exact hj)] at h2
    exact h.2 j c v h1 h2
  · rw [List.getElem?_append_right (by omega)] at h1
    rw [List.getElem?_append_right (by rw [← h.1]; omega), ← h.1] at h2
    exact k.2 _ c v h1 h2

theorem CsRV.flat {f : Nat → List Value} : ∀ {l : List (List AV)} {k : Nat}, (∀ (i : Nat) (x : List AV), l[i]? = some x → CsRV φ w x (f (k + i))) → CsRV φ w l.flatten ((List.range' k l.length).flatMap f)
  | [], _, _ => .nil
  | x :: l, k, h => by
    rw [List.flatten_cons, List.length_cons, List.range'_succ, List.flatMap_cons]
    refine (by simpa using h 0 x rfl : CsRV φ w x (f k)).append (CsRV.flat fun i y hy => ?_)
    have := h (i + 1) y (by simpa using hy)
    rwa [show k + (i + 1) = k + 1 + i by omega] at this

theorem cut_rows : ∀ (n e : Nat) (cs : List Value) (k : Nat), cs.length = (k + n) * e → (List.range' k n).flatMap (fun i => (cs.drop (i * e)).take e) = cs.drop (k * e)
  | 0, e, cs, k, h => by
    rw [List.drop_of_length_le (by rw [h]; simp)]
    rfl
  | n + 1, e, cs, k, h => by
    rw [List.range'_succ, List.flatMap_cons, cut_rows n e cs (k + 1) (by rw [h]; congr 1; omega)]
    have : (k + 1) * e = k * e + e := by rw [Nat.add_mul, Nat.one_mul]
    rw [this, ← List.drop_drop]
    exact List.take_append_drop e _
end

section
variable {H : Type} {enc : TypeId × Value → H} {P : Program} {φ : Phi} {w : World} {sp : Nat → Bool} {hd : Bool} {base : Nat}

theorem lastF_ok {t : Ty} {one : TypeId → Bool} (ht : ∀ u fuel cs d, one u = true → DataW.trod enc P w base sp hd fuel u cs = some d → ∃ x : t.D, t.Good x ∧ CsRV φ w (t.cells x) cs) {fs : List Field} {o : Nat} (h : lastF P t.width one fs o = true) {cs : List Value} {n : Nat} {xs : List (DataW H × List MemPlace)} (hc : cs.length = o + t.width)
    (hx : ∀ (i : Nat) (f : Field), fs[i]? = some f → DataW.trod enc P w base sp hd n f.type ((cs.drop f.offset).take (P.cellsOf f.type)) = xs[i]?) (hl : fs.length ≤ xs.length) : ∃ x : t.D, t.Good x ∧ CsRV φ w (t.cells x) (cs.drop o) := by
  unfold lastF at h
  split at h
  · rename_i f
    simp only [Bool.and_eq_true, beq_iff_eq] at h
    obtain ⟨⟨h1, h2⟩, h3⟩ := h
    have e := hx 0 f rfl
    rw [h1, h2, List.take_of_length_le (by simp [hc])] at e
    obtain ⟨y, ys, rfl⟩ : ∃ y ys, xs = y :: ys := by
      cases xs with
      | nil => simp at hl
      | cons y ys => exact ⟨y, ys, rfl⟩
    exact ht _ _ _ _ h3 e
  · cases h

theorem Addr.add_none' (bl off : Nat) (j : Nat) : (⟨bl, off, none⟩ : Addr).add j = ⟨bl, off + j, none⟩ := by
  unfold Addr.add
  split
  · rename_i h
    subst h
    rfl
  · rfl

theorem cells?_get {a : Addr} {n : Nat} {cs : List Value} (h : w.cells? base a n = some cs) : cs.length = n ∧ (0 < n → a.spot = none) ∧ ∀ (j : Nat) (v : Value), cs[j]? = some v → memW w a.block (a.off + j) = some v := by
  unfold World.cells? at h
  split at h
  · obtain ⟨m1, m2⟩ := mapM_get h
    have m1' : cs.length = n := by simpa using m1
    have m3 : ∀ (j : Nat) (v : Value), cs[j]? = some v → w.cell? (a.add j) = some v := by
      intro j v hj
      have hj' : j < n := by rw [← m1']; exact (List.getElem?_eq_some_iff.1 hj).1
      obtain ⟨y, g1, g2⟩ := m2 j j (by simp [hj'])
      rw [hj] at g1
      cases g1
      exact g2
    have hs : 0 < n → a.spot = none := by
      intro hn
      have := m3 0 (cs[0]'(by omega)) (by simp)
      unfold World.cell? at this
      split at this
      · split at this
        · cases this
        · rename_i hs
          simpa [Addr.add] using hs
      · cases this
    refine ⟨m1', hs, fun j v hj => ?_⟩
    have := m3 j v hj
    have hj' : j < n := by rw [← m1']; exact (List.getElem?_eq_some_iff.1 hj).1
    have e := hs (by omega)
    unfold memW
    rw [← this]
    obtain ⟨bl, off, spot⟩ := a
    simp only at e
    subst e
    rw [Addr.add_none']
  · cases h

theorem read_ok : ∀ (t : Ty), (∀ u fuel cs d, (t.fit P).1 u = true → DataW.trod enc P w base sp hd fuel u cs = some d → ∃ x : t.D, t.Good x ∧ CsRV φ w (t.cells x) cs) ∧
    (∀ (fs : List Field) (o : Nat) (cs : List Value) (n : Nat) (xs : List (DataW H × List MemPlace)), (t.fit P).2 fs o = true → cs.length = o + t.width →
      (∀ (i : Nat) (f : Field), fs[i]? = some f → DataW.trod enc P w base sp hd n f.type ((cs.drop f.offset).take (P.cellsOf f.type)) = xs[i]?) → fs.length ≤ xs.length → ∃ x : t.D, t.Good x ∧ CsRV φ w (t.cells x) (cs.drop o)) := by
  intro t
  induction t with
  | int k =>
    have h1 : ∀ u fuel cs d, ((Ty.int k).fit P).1 u = true → DataW.trod enc P w base sp hd fuel u cs = some d → ∃ x : (Ty.int k).D, (Ty.int k).Good x ∧ CsRV φ w ((Ty.int k).cells x) cs := by
      intro u fuel cs d hf ht
      simp only [Ty.fit] at hf
      split at hf
      · rename_i k' hu
        simp only [decide_eq_true_eq] at hf
        subst hf
        cases fuel with
        | zero => simp [DataW.trod] at ht
        | succ n =>
          unfold DataW.trod at ht
          rw [hu] at ht
          have : ∃ m, cs = [.int k' m] ∧ (Lit.int k' m).wf = true := by split at ht <;> simp_all
          obtain ⟨m, rfl, hw⟩ := this
          exact ⟨m, hw, .one (.int k' m)⟩
      · cases hf
    exact ⟨h1, fun fs o cs n xs h hc hx hl => lastF_ok h1 h hc hx hl⟩
  | bool =>
    have h1 : ∀ u fuel cs d, (Ty.bool.fit P).1 u = true → DataW.trod enc P w base sp hd fuel u cs = some d → ∃ x : Ty.bool.D, Ty.bool.Good x ∧ CsRV φ w (Ty.bool.cells x) cs := by
      intro u fuel cs d hf ht
      simp only [Ty.fit] at hf
      split at hf
      · rename_i hu
        cases fuel with
        | zero => simp [DataW.trod] at ht
        | succ n =>
          unfold DataW.trod at ht
          rw [hu] at ht
          have : ∃ b, cs = [.bool b] := by split at ht <;> simp_all
          obtain ⟨b, rfl⟩ := this
          exact ⟨b, trivial, .one (.bool b)⟩
      · cases hf
    exact ⟨h1, fun fs o cs n xs h hc hx hl => lastF_ok h1 h hc hx hl⟩
  | str =>
    have h1 : ∀ u fuel cs d, (Ty.str.fit P).1 u = true → DataW.trod enc P w base sp hd fuel u cs = some d → ∃ x : Ty.str.D, Ty.str.Good x ∧ CsRV φ w (Ty.str.cells x) cs := by
      intro u fuel cs d hf ht
      simp only [Ty.fit] at hf
      split at hf
      · rename_i hu
        cases fuel with
        | zero => simp [DataW.trod] at ht
        | succ n =>
          unfold DataW.trod at ht
          rw [hu] at ht
          split at ht <;> simp_all
          rename_i s
          refine ⟨s.data.toList, by simpa [Ty.Good] using ht.1, .one ?_⟩
          have : (Value.string s) = .string ⟨s.data.toList.toArray⟩ := by cases s; simp
          rw [this]
          exact .str _
      · cases hf
    exact ⟨h1, fun fs o cs n xs h hc hx hl => lastF_ok h1 h hc hx hl⟩
  | list e ih =>
    have h1 : ∀ u fuel cs d, ((Ty.list e).fit P).1 u = true → DataW.trod enc P w base sp hd fuel u cs = some d → ∃ x : (Ty.list e).D, (Ty.list e).Good x ∧ CsRV φ w ((Ty.list e).cells x) cs := by
      intro u fuel cs d hf ht
      simp only [Ty.fit] at hf
      split at hf
      · rename_i u' hu
        simp only [Bool.and_eq_true, beq_iff_eq, bne_iff_ne, ne_eq] at hf
        obtain ⟨⟨hf1, hf2⟩, hf3⟩ := hf
        rcases DataW.trod_slice hu ht with ⟨rfl, _⟩ | ⟨a, len, cap, elems, rest, n, _, rfl, _, hb, hl, hm, hlen, hel, _, _⟩
        · exact ⟨[], ⟨by simp, by simp⟩, .one (.slE _ none 0 (by simp))⟩
        · have each : ∀ i, i < len → ∃ (cs : List Value) (x : e.D), w.cells? base (a.add (i * e.width)) e.width = some cs ∧ e.Good x ∧ CsRV φ w (e.cells x) cs := by
            intro i hi
            have := hel i hi
            rw [hf2] at this
            cases hc : w.cells? base (a.add (i * e.width)) e.width with
            | none =>
              rw [hc, List.getElem?_eq_getElem (by omega)] at this
              cases this
            | some cs =>
              rw [hc, List.getElem?_eq_getElem (by omega), Option.bind_some] at this
              obtain ⟨x, g1, g2⟩ := ih.1 _ _ _ _ hf1 this
              exact ⟨cs, x, rfl, g1, g2⟩
          have pick : ∀ m, m ≤ len → ∃ xs : List e.D, xs.length = m ∧ (∀ x ∈ xs, e.Good x) ∧ ∀ (i : Nat) (x : e.D), xs[i]? = some x → ∃ cs, w.cells? base (a.add (i * e.width)) e.width = some cs ∧ CsRV φ w (e.cells x) cs := by
            intro m
            induction m with
            | zero => exact fun _ => ⟨[], rfl, by simp, by simp⟩
            | succ m im =>
              intro hm'
              obtain ⟨xs, g1, g2, g3⟩ := im (by omega)
              obtain ⟨cs, x, k1, k2, k3⟩ := each m (by omega)
              refine ⟨xs ++ [x], by simp [g1], fun y hy => ?_, fun i y hy => ?_⟩
              · rcases List.mem_append.1 hy with h | h
                · exact g2 y h
                · simp at h; subst h; exact k2
              · by_cases hi : i < m
                · rw [List.getElem?_append_left (by omega)] at hy
                  exact g3 i y hy
                · rw [List.getElem?_append_right (by omega)] at hy
                  have : i = m := by
                    have := (List.getElem?_eq_some_iff.1 hy).1
                    simp at this
                    omega
                  subst this
                  simp [g1] at hy
                  subst hy
                  exact ⟨cs, k1, k3⟩
          obtain ⟨xs, g1, g2, g3⟩ := pick len (Nat.le_refl _)
          refine ⟨xs, ⟨by omega, g2⟩, .one ?_⟩
          by_cases h0 : len = 0
          · have : xs = [] := List.length_eq_zero_iff.1 (by omega)
            subst this
            subst h0
            exact .slE _ _ _ (by simp)
          · obtain ⟨x0, hx0⟩ : ∃ x, xs[0]? = some x := ⟨xs[0]'(by omega), by simp⟩
            obtain ⟨cs0, q1, q2⟩ := g3 0 x0 hx0
            have hspot := (cells?_get q1).2.1 (by omega)
            obtain ⟨bl, off, spot⟩ := a
            simp only [Nat.zero_mul, Addr.add, if_true] at hspot
            subst hspot
            have := RV.sl (φ := φ) (μ := memW w) e.width (xs.map e.enc) bl off cap (fun i j => (memW w bl (off + i * e.width + j)).getD .nilIface) (by simp [g1]; omega)
              (fun i x hx => by
                simp only [List.getElem?_map, Option.map_eq_some_iff] at hx
                obtain ⟨y, hy, rfl⟩ := hx
                rw [Ty.enc_cells]
                refine ⟨Ty.len_cells _ _, ?_⟩
                rw [List.all_eq_true]
                intro a ha
                have := Ty.cells_leaf e y a ha
                cases a <;> simp_all [AV.leaf, AV.one])
              (fun i j x c hx hc => by
                simp only [List.getElem?_map, Option.map_eq_some_iff] at hx
                obtain ⟨y, hy, rfl⟩ := hx
                rw [Ty.enc_cells] at hc
                obtain ⟨cs, q1, q2⟩ := g3 i y hy
                have hj : j < cs.length := by rw [← q2.1]; exact (List.getElem?_eq_some_iff.1 hc).1
                have := (cells?_get q1).2.2 j cs[j] (by simp [hj])
                rw [Addr.add_none'] at this
                simp only at this
                simp only [this, Option.getD_some])
              (fun i j x c hx hc => by
                simp only [List.getElem?_map, Option.map_eq_some_iff] at hx
                obtain ⟨y, hy, rfl⟩ := hx
                rw [Ty.enc_cells] at hc
                obtain ⟨cs, q1, q2⟩ := g3 i y hy
                have hj : j < cs.length := by rw [← q2.1]; exact (List.getElem?_eq_some_iff.1 hc).1
                have := (cells?_get q1).2.2 j cs[j] (by simp [hj])
                rw [Addr.add_none'] at this
                simp only at this
                simp only [this, Option.getD_some]
                exact q2.2 j c _ hc (by simp [hj]))
            rw [List.length_map, g1] at this
            exact this
      · cases hf
    exact ⟨h1, fun fs o cs n xs h hc hx hl => lastF_ok h1 h hc hx hl⟩
  | st b ih =>
    have h1 : ∀ u fuel cs d, ((Ty.st b).fit P).1 u = true → DataW.trod enc P w base sp hd fuel u cs = some d → ∃ x : (Ty.st b).D, (Ty.st b).Good x ∧ CsRV φ w ((Ty.st b).cells x) cs := by
      intro u fuel cs d hf ht
      simp only [Ty.fit] at hf
      split at hf
      · rename_i fs hu
        simp only [Bool.and_eq_true, beq_iff_eq] at hf
        obtain ⟨xs, n, _, _, h1, h2, h3⟩ := DataW.trod_struct hu ht
        obtain ⟨x, g1, g2⟩ := ih.2 fs.toList 0 cs n xs hf.2 (by omega) (fun i f hi => h3 i f (by simpa using hi)) (by simp [h2])
        exact ⟨x, g1, by simpa [Ty.cells] using g2⟩
      · cases hf
    exact ⟨h1, fun fs o cs n xs h hc hx hl => lastF_ok (t := .st b) h1 h hc hx hl⟩
  | arr n e ih =>
    have h1 : ∀ u fuel cs d, ((Ty.arr n e).fit P).1 u = true → DataW.trod enc P w base sp hd fuel u cs = some d → ∃ x : (Ty.arr n e).D, (Ty.arr n e).Good x ∧ CsRV φ w ((Ty.arr n e).cells x) cs := by
      intro u fuel cs d hf ht
      simp only [Ty.fit] at hf
      split at hf
      · rename_i m u' hu
        simp only [Bool.and_eq_true, beq_iff_eq] at hf
        obtain ⟨⟨⟨rfl, hf1⟩, hf2⟩, hf3⟩ := hf
        obtain ⟨xs, k, _, _, h1, h2, h3⟩ := DataW.trod_array hu ht
        rw [hf3] at h1
        have pick : ∀ q, q ≤ m → ∃ ys : List e.D, ys.length = q ∧ (∀ x ∈ ys, e.Good x) ∧ ∀ (i : Nat) (x : e.D), ys[i]? = some x → CsRV φ w (e.cells x) ((cs.drop (i * e.width)).take e.width) := by
          intro q
          induction q with
          | zero => exact fun _ => ⟨[], rfl, by simp, by simp⟩
          | succ q im =>
            intro hm'
            obtain ⟨ys, g1, g2, g3⟩ := im (by omega)
            have := h3 q (by omega)
            rw [hf2, List.getElem?_eq_getElem (by omega)] at this
            obtain ⟨x, k2, k3⟩ := ih.1 _ _ _ _ hf1 this
            refine ⟨ys ++ [x], by simp [g1], fun y hy => ?_, fun i y hy => ?_⟩
            · rcases List.mem_append.1 hy with h | h
              · exact g2 y h
              · simp at h; subst h; exact k2
            · by_cases hi : i < q
              · rw [List.getElem?_append_left (by omega)] at hy
                exact g3 i y hy
              · rw [List.getElem?_append_right (by omega)] at hy
                have : i = q := by
                  have := (List.getElem?_eq_some_iff.1 hy).1
                  simp at this
                  omega
                subst this
                simp [g1] at hy
                subst hy
                exact k3
        obtain ⟨ys, g1, g2, g3⟩ := pick m (Nat.le_refl _)
        refine ⟨⟨ys, g1⟩, g2, ?_⟩
        have := CsRV.flat (φ := φ) (w := w) (f := fun i => (cs.drop (i * e.width)).take e.width) (l := ys.map e.cells) (k := 0) (fun i x hx => by
          simp only [List.getElem?_map, Option.map_eq_some_iff] at hx
          obtain ⟨y, hy, rfl⟩ := hx
          simpa using g3 i y hy)
        rw [List.length_map, g1, cut_rows m e.width cs 0 (by simpa using h1)] at this
        simpa [Ty.cells] using this
      · cases hf
    exact ⟨h1, fun fs o cs n xs h hc hx hl => lastF_ok (t := .arr _ e) h1 h hc hx hl⟩
  | pair a b iha ihb =>
    refine ⟨fun u fuel cs d hf => by simp [Ty.fit] at hf, fun fs o cs n xs h hc hx hl => ?_⟩
    simp only [Ty.fit] at h
    split at h
    · rename_i f fs
      simp only [Bool.and_eq_true, beq_iff_eq] at h
      obtain ⟨⟨⟨h1, h2⟩, h3⟩, h4⟩ := h
      obtain ⟨y, ys, rfl⟩ : ∃ y ys, xs = y :: ys := by
        cases xs with
        | nil => simp at hl
        | cons y ys => exact ⟨y, ys, rfl⟩
      have e := hx 0 f rfl
      rw [h1, h2] at e
      obtain ⟨x, g1, g2⟩ := iha.1 _ _ _ _ h3 e
      obtain ⟨z, k1, k2⟩ := ihb.2 fs (o + a.width) cs n ys h4 (by simp only [Ty.width] at hc; omega) (fun i f hi => by
        have := hx (i + 1) f (by simpa using hi)
        simpa using this) (by simpa using hl)
      refine ⟨(x, z), ⟨g1, k1⟩, ?_⟩
      have := g2.append k2
      rw [← List.drop_drop, List.take_append_drop] at this
      exact this
    · cases h
end
end Go.Vm
/- The words of shallow functions; how their theorems are joined. -/
namespace Go.Vm

abbrev Arr (n : Nat) (α : Type) := { l : List α // l.length = n }
def reqP {ρ : Type} (p : Prop) [Decidable p] (x : Option ρ) : Option ρ := if p then x else none
def atL {α ρ : Type} (l : List α) (i : Int) (k : α → Option ρ) : Option ρ := if 0 ≤ i then (match l[i.toNat]? with
  | some a => k a
  | none => none) else none
def bnd {α ρ : Type} (x : α) (k : α → Option ρ) : Option ρ := k x
def jn {α ρ : Type} (m : Option (α ⊕ ρ)) (k : α → Option ρ) : Option ρ := m.bind fun
  | .inl a => k a
  | .inr r => some r

/-- A function's environment. -/
def mkE (fns : List (Nat × FnT)) (anns : List (Nat × Ann)) (tys : List (Nat × Ty)) : TEnv :=
  ⟨fun n => (fns.filter fun p => p.1 == n).map (·.2), fun n => anns.lookup n, fun n => (tys.lookup n).getD .bool⟩

def AllOK (o : Oracle) (fns : List (Nat × FnT)) : Prop := ∀ p ∈ fns, FnOK o p.1 p.2
theorem AllOK.nil {o : Oracle} : AllOK o [] := fun p h => by cases h
theorem AllOK.cons {o : Oracle} {g : Nat} {F : FnT} {l : List (Nat × FnT)} (h : FnOK o g F) (k : AllOK o l) : AllOK o ((g, F) :: l) := fun p hp => by
  rcases List.mem_cons.1 hp with rfl | hp
  · exact h
  · exact k p hp
theorem AllOK.env {o : Oracle} {fns : List (Nat × FnT)} {anns : List (Nat × Ann)} {tys : List (Nat × Ty)} (h : AllOK o fns) : EnvOK o (mkE fns anns tys) := fun g F hF => by
  simp only [mkE, List.mem_map, List.mem_filter, beq_iff_eq] at hF
  obtain ⟨p, ⟨h1, h2⟩, rfl⟩ := hF
  have := h p h1
  rwa [h2] at this

theorem some_getD {α : Type} {o : Option α} {d : α} (h : o.isSome = true) : o = some (o.getD d) := by
  cases o with
  | none => cases h
  | some a => rfl

/-- The machine of a seat: its functions, and those that are proved by hand. -/
def mkS (l : List (Nat × RFunc)) (prims : List (Nat × (List AV → Option Res))) : Sys :=
  ⟨fun g => l.lookup g, fun g => prims.lookup g, fun _ => false⟩

def mkPhi (ids : List Nat) : Phi := fun f => if ids.contains f then some f else none
theorem mkPhi_eq {ids : List Nat} {f g : Nat} (h : mkPhi ids f = some g) : f = g ∧ ids.contains f = true := by
  unfold mkPhi at h
  split at h
  · exact ⟨Option.some.inj h, by assumption⟩
  · cases h

def Fns (P : Program) (φ : Phi) (l : List (Nat × RFunc)) : Prop := ∀ p ∈ l, ∃ fn X, P.funcs[p.1]? = some fn ∧ X.P = P ∧ X.φ = φ ∧ funcP X fn = some p.2
theorem Fns.nil {P : Program} {φ : Phi} : Fns P φ [] := fun p h => by cases h
theorem Fns.cons {P : Program} {φ : Phi} {g : Nat} {F : RFunc} {l : List (Nat × RFunc)} {fn : Func} {X : Cx} (h1 : P.funcs[g]? = some fn) (h2 : X.P = P) (h3 : X.φ = φ) (h4 : funcP X fn = some F) (k : Fns P φ l) : Fns P φ ((g, F) :: l) := fun p hp => by
  rcases List.mem_cons.1 hp with rfl | hp
  · exact ⟨fn, X, h1, h2, h3, h4⟩
  · exact k p hp

theorem lookupN_mem {α : Type} {g : Nat} {F : α} : ∀ {l : List (Nat × α)}, l.lookup g = some F → (g, F) ∈ l
  | [], h => by cases h
  | (k, x) :: l, h => by
    simp only [List.lookup] at h
    split at h
    · rename_i e
      cases h
      have : g = k := by simpa using e
      subst this
      exact .head _
    · exact .tail _ (lookupN_mem h)

def PrimsOK (P : Program) (φ : Phi) (l : List (Nat × (List AV → Option Res))) : Prop := ∀ p ∈ l, ∀ args r, p.2 args = some r → CallOK P φ p.1 args r
theorem PrimsOK.cons {P : Program} {φ : Phi} {g : Nat} {p : List AV → Option Res} {l : List (Nat × (List AV → Option Res))} (h : ∀ args r, p args = some r → CallOK P φ g args r) (k : PrimsOK P φ l) : PrimsOK P φ ((g, p) :: l) := fun q hq => by
  rcases List.mem_cons.1 hq with rfl | hq
  · exact h
  · exact k q hq
theorem PrimsOK.nil {P : Program} {φ : Phi} : PrimsOK P φ [] := fun p h => by cases h

theorem sys_ok {P : Program} {ids : List Nat} {l : List (Nat × RFunc)} {pr : List (Nat × (List AV → Option Res))} (h : Fns P (mkPhi ids) l) (hpr : PrimsOK P (mkPhi ids) pr) : SysOK P (mkPhi ids) (mkS l pr) where
  fn g F hg f hf := by
    obtain ⟨rfl, _⟩ := mkPhi_eq hf
    obtain ⟨fn, X, h1, h2, h3, h4⟩ := h (f, F) (lookupN_mem (l := l) hg)
    refine ⟨fn, X, h1, h2, h3, funcP_ok h4⟩
  prim g p hp args r hr := hpr (g, p) (lookupN_mem (l := pr) hp) args r hr

theorem phi_ok {P : Program} {ids : List Nat} (h : (ids.all fun g => match P.funcs[g]? with
    | some fn => fn.body.isSome && fn.name != "runtime.NumGoroutine"
    | none => false) = true) : PhiOK P (mkPhi ids) := fun f g hf => by
  obtain ⟨rfl, hc⟩ := mkPhi_eq hf
  have := List.all_eq_true.1 h f (by simpa using hc)
  split at this
  · rename_i fn e
    simp only [Bool.and_eq_true, bne_iff_ne] at this
    exact ⟨fn, e, this.1, this.2⟩
  · cases this

theorem fn_ok' {S : Sys} {fns : List (Nat × FnT)} {anns : List (Nat × Ann)} {tys : List (Nat × Ty)} (hE : AllOK S.lim fns) {g : Nat} {F : RFunc} (hp : S.prim g = none) (hf : S.fn g = some F) {sig : Sig} {f : pd sig.apt → Option (pd sig.rpt)}
    (hr : ∀ x, (runT (mkE fns anns tys) F sig x).den = f x) : FnOK S.lim g ⟨sig, f⟩ :=
  fn_ok hE.env hp hf fun x y h => (hr x).trans h

theorem FnOK.le {o : Oracle} {g : Nat} {sig : Sig} {f f' : pd sig.apt → Option (pd sig.rpt)} (h : FnOK o g ⟨sig, f⟩) (hle : ∀ x y, f' x = some y → f x = some y) : FnOK o g ⟨sig, f'⟩ :=
  fun x y args ha hy => h x y args ha (hle x y hy)
end Go.Vm
/- A law's row, out of what its function computes. -/
namespace Go.Vm
open Go.ChangeShapes Go.WideShapes Go.ChangeAt Go.RowKit

def DP.Good : DP → Prop
  | ⟨.ty t, x⟩ => t.Good x
  | ⟨.num, _⟩ => True
def valSig (tys : List Ty) : Sig := ⟨tys.map .val, [(.one, [.v .bool])]⟩
def Goods (tys : List Ty) (x : pd (valSig tys).apt) : Prop := ∀ p ∈ pd.to _ x, p.Good

def allGood : List DP → Prop
  | [] => True
  | p :: l => p.Good ∧ allGood l
theorem allGood_of : ∀ {l : List DP}, (∀ p ∈ l, p.Good) → allGood l
  | [], _ => trivial
  | p :: l, h => ⟨h p (.head _), allGood_of fun q hq => h q (.tail _ hq)⟩
/-- What is known of the arguments, one after another. -/
theorem goods_all {tys : List Ty} {x : pd (valSig tys).apt} (h : Goods tys x) : allGood (pd.to _ x) := allGood_of h

theorem pd.ex : ∀ (ps : List PT) (l : List DP), l.map DP.p = ps → ∃ x : pd ps, pd.to ps x = l
  | [], [], _ => ⟨(), rfl⟩
  | [], _ :: _, h => by simp at h
  | _ :: _, [], h => by simp at h
  | p :: ps, ⟨q, x⟩ :: l, h => by
    simp only [List.map_cons, List.cons.injEq] at h
    obtain ⟨rfl, h⟩ := h
    obtain ⟨y, hy⟩ := pd.ex ps l h
    exact ⟨pd.cons x y, by simp only [pd.to, pd.head_cons, pd.tail_cons, hy]⟩

def fitAll (P : Program) : List Ty → List TypeId → Bool
  | [], [] => true
  | t :: ts, u :: us => (t.fit P).1 u && fitAll P ts us
  | _, _ => false

section
variable {H : Type} {enc : TypeId × Value → H} {P : Program} {φ : Phi} {S : Sys}

theorem fit_one {t : Ty} (ht : t.one = true) {u : TypeId} (h : (t.fit P).1 u = true) : ∀ fs, P.underlying u ≠ some (.struct fs) ∧ ∀ n e, P.underlying u ≠ some (.array n e) := by
  intro fs
  cases t <;> simp [Ty.one] at ht <;> simp only [Ty.fit] at h <;> split at h <;> simp_all
theorem fit_agg {t : Ty} (ht : t.one = false) {u : TypeId} (h : (t.fit P).1 u = true) : (∃ fs, P.underlying u = some (.struct fs)) ∨ ∃ n e, P.underlying u = some (.array n e) := by
  cases t <;> simp [Ty.one] at ht <;> simp only [Ty.fit] at h <;> (try split at h) <;> simp_all

/-- A value of the type: of its cells. -/
theorem enc_of_cells {w : World} {t : Ty} {u : TypeId} {v : Value} {x : t.D} {base : Nat} (hf : (t.fit P).1 u = true) (hv : Value.okWide P w .any base u v) (hc : CsRV φ w (t.cells x) v.cells.toList) : RV φ (memW w) (t.enc x) v := by
  cases ho : t.one with
  | true =>
    obtain ⟨a, ha, _⟩ := Ty.one_cells ho x
    have hna : ∀ cs, v ≠ .agg cs := by
      intro cs e
      subst e
      have := fit_one ho hf
      unfold Value.okWide at hv
      split at hv
      · rename_i fs h; exact (this fs).1 h
      · rename_i n e h; exact (this #[]).2 _ _ h
      · unfold Cell.okWide at hv
        split at hv <;> simp_all
        unfold Cell.ok at hv
        split at hv <;> simp_all
    have hcs : v.cells.toList = [v] := by
      cases v <;> simp_all [Value.cells]
    rw [hcs, ha] at hc
    unfold Ty.enc enc1
    rw [ho, if_pos rfl, ha]
    exact hc.2 0 a v rfl rfl
  | false =>
    have hag : ∃ cs, v = .agg cs := by
      unfold Value.okWide at hv
      rcases fit_agg ho hf with ⟨fs, h⟩ | ⟨n, e, h⟩
      · rw [h] at hv
        obtain ⟨cs, h, _⟩ := hv
        exact ⟨cs, h⟩
      · rw [h] at hv
        obtain ⟨cs, h, _⟩ := hv
        exact ⟨cs, h⟩
    obtain ⟨cs, rfl⟩ := hag
    unfold Ty.enc enc1
    rw [ho]
    simp only [Value.cells] at hc
    exact .agg _ _ (by have := hc.1; simp at this; exact this.symm) (fun j c v h1 h2 => hc.2 j c v h1 (by simpa using h2))

theorem args_read {w : World} {base : Nat} : ∀ {tys : List Ty} {ts : List TypeId} {args : List Value} {ds : List (DataW H)} {p : List MemPlace}, fitAll P tys ts = true →
    (∀ (j : Nat) (t : TypeId) (v : Value), ts[j]? = some t → args[j]? = some v → Value.okWide P w .any base t v) → DataW.TrodAll enc P w 0 (fun _ => true) true ts args ds p →
    ∃ (l : List DP) (as : List AV), l.map DP.p = tys.map .ty ∧ (∀ q ∈ l, q.Good) ∧ ARs (tys.map .val) l as ∧ as.length = args.length ∧ ∀ (j : Nat) (a : AV) (v : Value), as[j]? = some a → args[j]? = some v → RV φ (memW w) a v
  | [], ts, args, ds, p, hf, hv, hA => by
    cases ts with
    | cons _ _ => cases hf
    | nil =>
      obtain ⟨rfl, _, _⟩ := trodAll_nil hA
      exact ⟨[], [], rfl, by simp, ⟨rfl, rfl⟩, rfl, by simp⟩
  | t :: tys, ts, args, ds, p, hf, hv, hA => by
    cases ts with
    | nil => cases hf
    | cons u us =>
      simp only [fitAll, Bool.and_eq_true] at hf
      obtain ⟨v, vs, d, ds, p, q, rfl, rfl, rfl, h1, h2⟩ := trodAll_cons hA
      obtain ⟨l, as, k1, k2, k3, k4, k5⟩ := args_read hf.2 (fun j t v h h' => hv (j + 1) t v (by simpa using h) (by simpa using h')) h2
      obtain ⟨fuel, h1⟩ := h1
      obtain ⟨x, g1, g2⟩ := (read_ok t).1 u fuel _ _ hf.1 h1
      have g3 := enc_of_cells (φ := φ) hf.1 (hv 0 u v rfl rfl) g2
      refine ⟨⟨.ty t, x⟩ :: l, t.enc x :: as, by simp [k1], fun q hq => ?_, ⟨[⟨.ty t, x⟩], l, t.enc x, as, rfl, rfl, ⟨x, rfl, rfl⟩, k3⟩, by simp [k4], fun j a w' h h' => ?_⟩
      · rcases List.mem_cons.1 hq with rfl | hq
        · exact g1
        · exact k2 q hq
      · cases j with
        | zero => simp at h h'; subst h h'; exact g3
        | succ j => exact k5 j a w' (by simpa using h) (by simpa using h')

theorem apt_val (tys : List Ty) : (valSig tys).apt = tys.map .ty := by
  simp only [valSig, Sig.apt]
  induction tys with
  | nil => rfl
  | cons t ts ih => simp only [List.map_cons, List.flatMap_cons, AT.pts, List.singleton_append, ih]

/-- A law's function, called. -/
theorem law_calls (hS : SysOK P φ S) (hphi : PhiOK P φ) {n : Nat} (hn : φ n = some n) {tys : List Ty} {f : pd (valSig tys).apt → Option (pd (valSig tys).rpt)} (hk : FnOK S.lim n ⟨valSig tys, f⟩) {y : pd (valSig tys).rpt} (hy : pd.to _ y = [⟨.ty .bool, true⟩])
    (hf : ∀ x, Goods tys x → f x = some y) {ts : List TypeId} (hfit : fitAll P tys ts = true) {w : World} {base : Nat} {args : Array Value} {ds : List (DataW H)} {p : List MemPlace}
    (hv : ∀ (j : Nat) (t : TypeId) (v : Value), ts[j]? = some t → args.toList[j]? = some v → Value.okWide P w .any base t v) (hA : DataW.TrodAll enc P w 0 (fun _ => true) true ts args.toList ds p) :
    Calls P n args w fun e w' => e = .returned (.bool true) ∧ RowKit.Below w.heap.size w w' := by
  obtain ⟨l, as, k1, k2, k3, k4, k5⟩ := args_read (φ := φ) hfit hv hA
  obtain ⟨x, hx⟩ := pd.ex (valSig tys).apt l (by rw [k1, apt_val])
  obtain ⟨vs, bs, p1, p2, g1, g2, g3, g4⟩ := hk x y as (by rw [hx]; exact k3) (hf x (by unfold Goods; rw [hx]; exact k2))
  have hp : tupA vs = .bool true := by
    obtain ⟨q1, q2, a, as', e1, e2, e3, e4⟩ := g3
    obtain ⟨e5, e6⟩ := e4
    subst e5 e6 e2
    obtain ⟨c, pr, q, r, h1, h2, h3, h4⟩ := e3
    obtain ⟨h5, h6⟩ := h4
    obtain ⟨b, h7, h8⟩ := h3
    subst h5 h6 h7 h8
    have e := hy.symm.trans g2
    rw [e1, h1] at e
    simp only [List.append_nil, List.cons_append, List.nil_append, List.cons.injEq, DP.mk.injEq, heq_eq_eq, true_and] at e
    obtain ⟨e, _⟩ := e
    rw [← e] at h2
    simp only [Ty.cells, List.append_nil, List.cons.injEq, and_true] at h2
    simp only [tupA]
    exact h2
  have := Sys.calls hS hphi (f := n) hn g1 (vals := args.toList) (w := w) (μ := memW w) k4.symm k5 (fun b k v h => h)
  refine this.mono fun e w' h => ?_
  cases e with
  | outgrown => exact h.elim
  | panicked c => exact h.elim
  | returned v =>
    obtain ⟨h1, μ', L, h2⟩ := h
    simp only [hp] at h2
    refine ⟨?_, h1⟩
    cases h2 with
    | val h => cases h; rfl

theorem trodAll_back (hl : laidOutB P = true) {w w' : World} (hb : RowKit.Below w.heap.size w w') : ∀ {ts : List TypeId} {args : List Value} {ds : List (DataW H)} {p : List MemPlace}, (ts.all fun t => P.readableRec t && decide (t < P.types.size)) = true →
    DataW.TrodAll enc P w 0 (fun _ => true) true ts args ds p → DataW.TrodAll enc P w' 0 (fun b => decide (b < w.heap.size)) true ts args ds p
  | [], args, ds, p, _, h => by
    obtain ⟨rfl, rfl, rfl⟩ := trodAll_nil h
    exact trodAll_mk0
  | t :: ts, args, ds, p, hr, h => by
    obtain ⟨v, vs, d, ds, p, q, rfl, rfl, rfl, h1, h2⟩ := trodAll_cons h
    simp only [List.all_cons, Bool.and_eq_true, decide_eq_true_eq] at hr
    exact trodAll_cons_mk (RowKit.Below.trod hl hr.1.1 hr.1.2 h1 hb (by obtain ⟨m, hm⟩ := h1; exact DataW.trod_lt m _ _ _ hm)) (trodAll_back hl hb hr.2 h2)
theorem trodAll_len {w : World} {base : Nat} {sp : Nat → Bool} {hd : Bool} : ∀ {ts : List TypeId} {args : List Value} {ds : List (DataW H)} {p : List MemPlace}, DataW.TrodAll enc P w base sp hd ts args ds p → ds.length = ts.length
  | [], args, ds, p, h => by
    obtain ⟨rfl, rfl, rfl⟩ := trodAll_nil h
    rfl
  | t :: ts, args, ds, p, h => by
    obtain ⟨v, vs, d, ds, p, q, rfl, rfl, rfl, h1, h2⟩ := trodAll_cons h
    simp [trodAll_len h2]

theorem law_lifted {C : Checked} {s : ChangeSpec} {conds : List PathCond} {os : Os} {n : Nat} {fn : Func} (own : ownKnob C.prog.godebug = none) (started : os.Started) (noInit : C.prog.inits.idxOf? n = none) (hfn : C.prog.funcs[n]? = some fn)
    (witness : ∃ (w : World) (tape : Tape) (i : Input), w.os = os ∧ (w.forCall tape i).Shaped C.prog ∧ i.vars = [] ∧ Input.okWide C.prog (w.forCall tape i) .any w.heap.size n i ∧
      s.pre6 enc C.prog fn conds false (w.forCall tape i).memory i.args ∧ ({} : Assume).holds C.prog (lone (Frame.enter C.prog n i.args .normal) [] (w.forCall tape i)))
    (hl : laidOutB C.prog = true) (hvars : s.vars = []) {ts : List TypeId} (hts : fn.params.toList = ts) {rt : TypeId} (hrt : fn.resultTypes = #[rt]) (hb : C.prog.underlying rt = some .bool)
    (hspec : ∀ ds : List (DataW H), ds.length = ts.length → s.fn H ds = { results := [.lit (.bool true)], args := ds }) (hread : (ts.all fun t => C.prog.readableRec t && decide (t < C.prog.types.size)) = true)
    (hS : SysOK C.prog φ S) (hphi : PhiOK C.prog φ) (hn : φ n = some n) {tys : List Ty} (hfit : fitAll C.prog tys ts = true) {f : pd (valSig tys).apt → Option (pd (valSig tys).rpt)} (hk : FnOK S.lim n ⟨valSig tys, f⟩) {y : pd (valSig tys).rpt} (hy : pd.to _ y = [⟨.ty .bool, true⟩])
    (hf : ∀ x, Goods tys x → f x = some y) :
    ReturnsInHanded {} C os n .any (s.pre6 enc C.prog fn conds false) (s.post enc C.prog fn false true false false) := by
  refine returnsInHanded_of_change_sized (C := C) own started noInit hfn witness ?_
  intro W base args ds gs before hval hW _ _ _
  have hW' := hW
  obtain ⟨p, q, hA, hV, rfl, _, _⟩ := hW
  rw [hvars] at hV
  obtain ⟨rfl, rfl⟩ := trodVars_none hV
  have hA' := hA
  rw [hts] at hA
  refine (law_calls hS hphi hn hk hy hf hfit (fun j t v h h' => hval j t v (by rw [← hts] at h; simpa using h) (by simpa using h')) hA).mono fun e W' ⟨he, bel⟩ => ?_
  subst he
  have hd := hspec ds (trodAll_len hA)
  refine ⟨_, rfl, ds, [], _, [], p, [], hW', ?_, ?_, ?_, bel.frame _, fun h => by cases h⟩
  · rw [List.append_nil, hd, hrt]
    exact trodAll_mk1 (shut_bool hb _)
  · rw [List.append_nil, hd, hts]
    exact trodAll_back hl bel hread hA
  · rw [hvars, List.append_nil, hd]
    rfl
end
end Go.Vm
/- A copy of a slice: proved beside the machine, for it keeps nil apart. -/
namespace Go.Vm
def cloneF (e b : Nat) (z : AV) (sh : Shape) : RFunc := ⟨1, 8,
  (.seq (.region [⟨(some 2), none, .mv (.c .nil) false⟩] none)
  (.seq (.seq (.region [⟨(some 3), none, .mv (.t 0) false⟩, ⟨(some 4), none, .bin 2 .eql (.t 3) (.c .nil)⟩] none)
  (.cond (.t 4) (.seq (.region [⟨(some 2), none, .mv (.c .nil) false⟩] none) .ret) .skip))
  (.seq (.region [⟨(some 5), none, .buildSl e z sh 0 []⟩, ⟨(some 6), none, .mv (.t 0) false⟩, ⟨(some 7), none, .app e b (.t 5) (.t 6)⟩, ⟨(some 2), none, .mv (.t 7) false⟩] none)
  .ret))), [(.t 2, [(some e)])]⟩

section
variable {o : Oracle} {e b : Nat} {z : AV} {sh : Shape}
theorem clone_nil (he : e ≠ 0) : callFn o (cloneF e b z sh) [.nil] = some ⟨.fresh e [], [none]⟩ := by
  simp [putO, setF, Opnd.val, setFs, State.getO, State.getF, slot, look, cloneF, callFn, entry, entryL, impR, depth, interp, runIns, Ins.sem, ROp.sem, R.run, R.bind, Opnd.get, State.applyAll, W.apply, dstW, State.getT, obsOf, R.ofOpt, binV, binTag, finish, mapR, RRes.get, expL, mapE, expR, leaveR, shapes, nf, nf1, tupA, nodup, he]
theorem clone_emp (hz : z.cells.length = e) (hz1 : z.cells.all AV.one = true) (he : e ≠ 0) : callFn o (cloneF e b z sh) [.emp] = some ⟨.fresh e [], [none]⟩ := by
  simp [putO, setF, Opnd.val, setFs, State.getO, State.getF, slot, look, cloneF, callFn, entry, entryL, impR, depth, interp, runIns, Ins.sem, ROp.sem, R.run, R.bind, Opnd.get, State.applyAll, W.apply, dstW, State.getT, obsOf, R.ofOpt, binV, binTag, finish, mapR, RRes.get, expL, mapE, expR, leaveR, shapes, nf, nf1, tupA, nodup, he, hz, hz1, elems, mk, theObj, frz]
theorem clone_cons (hz : z.cells.length = e) (hz1 : z.cells.all AV.one = true) (he : e ≠ 0) (x : AV) (r : List AV) (hb : (r.length + 1) * b ≤ 140737488355328) : callFn o (cloneF e b z sh) [.sl e (x :: r)] = some ⟨.fresh e (x :: r), [none]⟩ := by
  simp [putO, setF, Opnd.val, setFs, State.getO, State.getF, slot, look, cloneF, callFn, entry, entryL, impR, depth, interp, runIns, Ins.sem, ROp.sem, R.run, R.bind, Opnd.get, State.applyAll, W.apply, dstW, State.getT, obsOf, R.ofOpt, binV, binTag, finish, mapR, RRes.get, expL, mapE, expR, leaveR, shapes, nf, nf1, tupA, nodup, he, hz, hz1, elems, mk, theObj, frz, hb]
end

def clonePrim (e b : Nat) : List AV → Option Res
  | [.sl e' xs] => if e' = e ∧ xs.length * b ≤ 140737488355328 then some ⟨.fresh e xs, [none]⟩ else none
  | _ => none

theorem clone_fn {S : Sys} {g : Nat} {t : Ty} {b : Nat} (hp : S.prim g = some (clonePrim t.width b)) : FnOK S.lim g ⟨⟨[.val (.list t)], [(.one, [.own t])]⟩, fun x => reqP (x.length * b ≤ 140737488355328) (some x)⟩ := by
  intro x y args ha hy
  obtain ⟨p1, p2, a, as', h1, rfl, ⟨l, rfl, rfl⟩, rfl, rfl⟩ := ha
  simp only [List.append_nil] at h1
  have hx : (x : List t.D) = l := by
    have h2 := (List.cons.inj (h1 : ([⟨.ty (.list t), x⟩] : List DP) = [⟨.ty (.list t), l⟩])).1
    injection h2 with _ h3
  subst hx
  simp only at hy
  unfold reqP at hy
  split at hy
  · rename_i hb
    cases hy
    refine ⟨[.fresh t.width (x.map t.enc)], [none], [⟨.ty (.list t), x⟩], [], ?_, rfl, ⟨[⟨.ty (.list t), x⟩], [], _, [], rfl, rfl, ⟨_, [], [_], [], rfl, rfl, ⟨x, rfl, _, rfl, .inl rfl⟩, rfl, rfl⟩, rfl, rfl⟩, ⟨_, [], [], [], none, [], rfl, rfl, rfl, ⟨rfl, rfl⟩, rfl, rfl, rfl⟩⟩
    apply lim_of_step
    have hb' : (x.map t.enc).length * b ≤ 140737488355328 := by
      rw [show (List.map t.enc x).length = List.length x from List.length_map _]
      exact hb
    have : (Ty.list t).enc x = .sl t.width (x.map t.enc) := rfl
    simp only [Sys.step, hp, this, clonePrim, true_and, if_pos hb', Option.map_some, tupA]
  · cases hy

theorem clone_call {P : Program} {ids : List Nat} {g : Nat} {fn : Func} {X : Cx} {e b : Nat} {z : AV} {sh : Shape} (hg : P.funcs[g]? = some fn) (hX : X.P = P) (hφ : X.φ = mkPhi ids) (hF : funcP X fn = some (cloneF e b z sh)) (hphi : PhiOK P (mkPhi ids))
    (hz : z.cells.length = e) (hz1 : z.cells.all AV.one = true) (he : e ≠ 0) : ∀ args r, clonePrim e b args = some r → CallOK P (mkPhi ids) g args r := by
  intro args r h0
  have hS : SysOK P (mkPhi ids) (mkS [(g, cloneF e b z sh)] []) := sys_ok (.cons hg hX hφ hF .nil) .nil
  have lim : ∀ {args r}, callFn (mkS [(g, cloneF e b z sh)] []).lim (cloneF e b z sh) args = some r → CallOK P (mkPhi ids) g args r := by
    intro args r h
    refine Sys.callOK hS hphi (lim_of_step ?_)
    have h1 : (mkS [(g, cloneF e b z sh)] []).prim g = none := rfl
    have h2 : (mkS [(g, cloneF e b z sh)] []).fn g = some (cloneF e b z sh) := by simp [mkS, List.lookup]
    generalize mkS [(g, cloneF e b z sh)] [] = S0 at *
    simp only [Sys.step, h1, h2, h, Option.map_some]
  have h := h0
  unfold clonePrim at h
  split at h
  · rename_i e' xs
    split at h
    · rename_i hc
      obtain ⟨rfl, hb⟩ := hc
      cases h
      intro f vals w μ Ls hf ha hap hok hsub
      cases ha with
      | cons hv hrest =>
        rename_i v L vs Ls
        cases hrest
        obtain ⟨hrv, rfl⟩ := hv.val_inv (by simp) (by simp) (by simp) (by simp)
        have go : ∀ (a : AV) (r : Res), callFn (mkS [(g, cloneF e' b z sh)] []).lim (cloneF e' b z sh) [a] = some r → RV (mkPhi ids) μ a v → Calls P f [v].toArray w fun
            | .returned v', w' => Left (mkPhi ids) μ w ([[]] : List (List Reg)).flatten [v] r v' w'
            | .outgrown, _ => False
            | .panicked _, _ => False := fun a r h1 h2 => lim h1 f [v] w μ [[]] hf (.cons (.val h2) .nil) hap hok hsub
        cases hrv with
        | slE e b' cap hb' =>
          cases b' with
          | none =>
            have : cap = 0 := hb' rfl
            subst this
            exact go _ _ (clone_nil he) .nil
          | some a => exact go _ _ (clone_emp hz hz1 he) (.emp a cap)
        | sl e xs bl off cap f' g1 g2 g3 g4 =>
          cases xs with
          | nil => exact go _ _ (clone_emp hz hz1 he) (.emp _ cap)
          | cons x r => exact go _ _ (clone_cons hz hz1 he x r (by simpa using hb)) (.sl _ _ bl off cap f' g1 g2 g3 g4)
    · cases h
  · cases h
end Go.Vm
/- Plain words: loops, whole numbers. -/
namespace Go.Vm

/-! ### Loops -/
section
variable {σ α ρ : Type}
theorem loopLim_next {f : σ → Option (σ ⊕ α)} {s s' : σ} (h : f s = some (.inl s')) : loopLim f s = loopLim f s' := by
  apply Option.ext
  intro a
  rw [loopLim_iff, loopLim_iff]
  constructor
  · rintro ⟨n, hn⟩
    cases n with
    | zero => cases hn
    | succ n => exact ⟨n, by simpa only [iter, h] using hn⟩
  · rintro ⟨n, hn⟩
    exact ⟨n + 1, by simpa only [iter, h] using hn⟩
theorem loopLim_end {f : σ → Option (σ ⊕ α)} {s : σ} {a : α} (h : f s = some (.inr a)) : loopLim f s = some a := loopLim_iff.2 ⟨1, by simp only [iter, h]⟩
/-- Round after round through given states. -/
theorem loopLim_to {f : σ → Option (σ ⊕ α)} (st : Nat → σ) (n : Nat) (h : ∀ i, i < n → f (st i) = some (.inl (st (i + 1)))) : ∀ i, i ≤ n → loopLim f (st 0) = loopLim f (st i)
  | 0, _ => rfl
  | i + 1, hi => (loopLim_to st n h i (by omega)).trans (loopLim_next (h i (by omega)))
theorem loopLim_count {f : σ → Option (σ ⊕ α)} (st : Nat → σ) (n : Nat) {a : α} {s : σ} (h0 : s = st 0) (h : ∀ i, i < n → f (st i) = some (.inl (st (i + 1)))) (he : f (st n) = some (.inr a)) : loopLim f s = some a := by
  rw [h0, loopLim_to st n h n (Nat.le_refl n)]
  exact loopLim_end he
/-- A loop with a measure: what it gives, by induction over its rounds. -/
theorem loopLim_ind {f : σ → Option (σ ⊕ α)} (m : σ → Nat) (I : σ → Prop) (post : σ → α → Prop)
    (h : ∀ s, I s → (∃ s', f s = some (.inl s') ∧ I s' ∧ m s' < m s ∧ ∀ a, post s' a → post s a) ∨ ∃ a, f s = some (.inr a) ∧ post s a) : ∀ s, I s → ∃ a, loopLim f s = some a ∧ post s a := by
  intro s
  generalize hn : m s = n
  induction n using Nat.strongRecOn generalizing s with
  | ind n ih =>
    intro hi
    rcases h s hi with ⟨s', h1, h2, h3, h4⟩ | ⟨a, h1, h2⟩
    · obtain ⟨a, g1, g2⟩ := ih (m s') (by omega) s' rfl h2
      exact ⟨a, (loopLim_next h1).trans g1, h4 a g2⟩
    · exact ⟨a, loopLim_end h1, h2⟩

/-- A loop through given states, and what follows. -/
theorem jn_count {f : σ → Option (σ ⊕ (α ⊕ ρ))} {s : σ} {k : α → Option ρ} {R : Option ρ} (st : Nat → σ) (n : Nat) (a : α) (h0 : s = st 0) (h : ∀ i, i < n → f (st i) = some (.inl (st (i + 1)))) (he : f (st n) = some (.inr (.inl a))) (hk : k a = R) : jn (loopLim f s) k = R := by
  rw [loopLim_count st n h0 h he]
  exact hk
theorem jn_count_r {f : σ → Option (σ ⊕ (α ⊕ ρ))} {s : σ} {k : α → Option ρ} (st : Nat → σ) (n : Nat) (r : ρ) (h0 : s = st 0) (h : ∀ i, i < n → f (st i) = some (.inl (st (i + 1)))) (he : f (st n) = some (.inr (.inr r))) : jn (loopLim f s) k = some r := by
  rw [loopLim_count st n h0 h he]
  rfl
@[simp] theorem jn_inl (a : α) (k : α → Option ρ) : jn (some (.inl a)) k = k a := rfl
@[simp] theorem jn_inr (r : ρ) (k : α → Option ρ) : jn (some (.inr r)) k = some r := rfl
@[simp] theorem bnd_eq (x : α) (k : α → Option ρ) : bnd x k = k x := rfl
theorem reqP_pos {p : Prop} [Decidable p] (h : p) (x : Option ρ) : reqP p x = x := if_pos h
theorem atL_get {l : List α} {i : Int} {k : α → Option ρ} {a : α} (h0 : 0 ≤ i) (h : l[i.toNat]? = some a) : atL l i k = k a := by
  unfold atL
  rw [if_pos h0, h]
theorem atL_nat {l : List α} {i : Nat} {k : α → Option ρ} {a : α} (h : l[i]? = some a) : atL l (i : Int) k = k a := atL_get (by omega) (by simpa using h)
end

/-! ### Whole numbers -/
abbrev I64 (n : Int) : Prop := -9223372036854775808 ≤ n ∧ n ≤ 9223372036854775807
abbrev U64 (n : Int) : Prop := 0 ≤ n ∧ n ≤ 18446744073709551615
abbrev U8 (n : Int) : Prop := 0 ≤ n ∧ n ≤ 255
theorem good_i64 {n : Int} : (Ty.int .i64).Good n ↔ I64 n := by simp [Ty.Good, Lit.wf, IntKind.min, IntKind.max, IntKind.signed, IntKind.bits]
theorem good_u64 {n : Int} : (Ty.int .u64).Good n ↔ U64 n := by simp [Ty.Good, Lit.wf, IntKind.min, IntKind.max, IntKind.signed, IntKind.bits]
theorem good_u8 {n : Int} : (Ty.int .u8).Good n ↔ U8 n := by simp [Ty.Good, Lit.wf, IntKind.min, IntKind.max, IntKind.signed, IntKind.bits]

theorem wrap_u64 (n : Int) : IntKind.wrap .u64 n = n % 18446744073709551616 := by simp [IntKind.wrap, IntKind.signed, IntKind.bits]
theorem wrap_u8 (n : Int) : IntKind.wrap .u8 n = n % 256 := by simp [IntKind.wrap, IntKind.signed, IntKind.bits]
theorem wrap_i64 (n : Int) : IntKind.wrap .i64 n = if n % 18446744073709551616 ≥ 9223372036854775808 then n % 18446744073709551616 - 18446744073709551616 else n % 18446744073709551616 := by simp [IntKind.wrap, IntKind.signed, IntKind.bits]
theorem wrap_i64_id {n : Int} (h : I64 n) : IntKind.wrap .i64 n = n := by rw [wrap_i64]; split <;> omega
theorem wrap_u64_id {n : Int} (h : U64 n) : IntKind.wrap .u64 n = n := by rw [wrap_u64]; omega
theorem wrap_u8_id {n : Int} (h : U8 n) : IntKind.wrap .u8 n = n := by rw [wrap_u8]; omega
theorem add_i64 {a b : Int} (h : I64 (a + b)) : iAdd .i64 a b = a + b := wrap_i64_id h
theorem sub_i64 {a b : Int} (h : I64 (a - b)) : iSub .i64 a b = a - b := wrap_i64_id h
theorem mul_i64 {a b : Int} (h : I64 (a * b)) : iMul .i64 a b = a * b := wrap_i64_id h
theorem conv_i64 {a : Int} (h : I64 a) : iConv .i64 a = a := wrap_i64_id h
theorem conv_u64 (a : Int) : iConv .u64 a = a % 18446744073709551616 := wrap_u64 a
theorem conv_u64_id {a : Int} (h : U64 a) : iConv .u64 a = a := wrap_u64_id h
theorem conv_u8 (a : Int) : iConv .u8 a = a % 256 := wrap_u8 a
theorem conv_u8_id {a : Int} (h : U8 a) : iConv .u8 a = a := wrap_u8_id h
theorem quo_i64 {a b : Int} (h0 : 0 ≤ a) (h : I64 (a / b)) : iQuo .i64 a b = a / b := by
  unfold iQuo
  rw [Int.tdiv_eq_ediv_of_nonneg h0]
  exact wrap_i64_id h
theorem rem_nonneg (k : IntKind) {a b : Int} (h0 : 0 ≤ a) : iRem k a b = a % b := by
  unfold iRem
  rw [Int.tmod_eq_emod_of_nonneg h0]
theorem pow_cast (j : Nat) : (((2 : Nat) ^ j : Nat) : Int) = (2 : Int) ^ j := by simp
theorem pow_le_int {i j : Nat} (h : i ≤ j) : (2 : Int) ^ i ≤ 2 ^ j := by
  rw [← pow_cast, ← pow_cast]
  exact_mod_cast Nat.pow_le_pow_right (by omega) h
theorem shr_eq (k : IntKind) (a : Int) (b : Nat) (hb : b ≤ k.bits) : iShr k a (b : Int) = a / 2 ^ b := by
  unfold iShr
  have h : (0 : Int) ≤ 2 ^ b := Int.le_of_lt (Int.pow_pos (by omega))
  rw [Int.toNat_natCast, Nat.min_eq_left hb, Int.fdiv_eq_ediv_of_nonneg _ h]

theorem and_ofInt_mask (w : Nat) (a : Int) (j : Nat) (hj : j ≤ w) : ((BitVec.ofInt w a &&& BitVec.ofInt w (2 ^ j - 1)).toNat : Int) = a % 2 ^ j := by
  have h1 : (2 : Int) ^ j - 1 = ((2 ^ j - 1 : Nat) : Int) := by
    have : 1 ≤ 2 ^ j := Nat.one_le_two_pow
    have := pow_cast j
    omega
  rw [h1, BitVec.ofInt_natCast, BitVec.toNat_and, BitVec.toNat_ofInt, BitVec.toNat_ofNat]
  have h2 : (2 ^ j - 1) % 2 ^ w = 2 ^ j - 1 := Nat.mod_eq_of_lt (by
    have : 2 ^ j ≤ 2 ^ w := Nat.pow_le_pow_right (by omega) hj
    have : 0 < 2 ^ j := Nat.two_pow_pos j
    omega)
  rw [h2, Nat.and_two_pow_sub_one_eq_mod]
  have h3 : (0 : Int) < ((2 ^ w : Nat) : Int) := by
    have := Nat.two_pow_pos w
    omega
  have h4 : ((a % ((2 ^ w : Nat) : Int)).toNat : Int) = a % ((2 ^ w : Nat) : Int) := Int.toNat_of_nonneg (Int.emod_nonneg _ (by omega))
  rw [Int.natCast_emod, h4]
  have h5 : (((2 ^ j : Nat) : Int)) ∣ (((2 ^ w : Nat) : Int)) := by
    exact_mod_cast Nat.pow_dvd_pow 2 hj
  rw [Int.emod_emod_of_dvd _ h5]
  simp

theorem and_mask (k : IntKind) (a : Int) (j : Nat) (hj : j < k.bits) : iAnd k a (2 ^ j - 1) = a % 2 ^ j := by
  unfold iAnd
  rw [and_ofInt_mask _ _ _ (by omega)]
  have h0 : (0 : Int) < 2 ^ j := Int.pow_pos (by omega)
  have h1 : 0 ≤ a % 2 ^ j := Int.emod_nonneg _ (by omega)
  have h2 : a % 2 ^ j < 2 ^ j := Int.emod_lt_of_pos _ h0
  have h3 : (2 : Int) ^ j ≤ 2 ^ (k.bits - 1) := pow_le_int (by omega)
  have h4 : (2 : Int) ^ (k.bits - 1) ≤ 2 ^ k.bits := pow_le_int (by omega)
  unfold IntKind.wrap
  have h5 : a % 2 ^ j % 2 ^ k.bits = a % 2 ^ j := Int.emod_eq_of_lt h1 (by omega)
  simp only [h5]
  rw [if_neg]
  simp only [Bool.and_eq_true, decide_eq_true_eq, ge_iff_le, not_and]
  intro _
  omega
theorem and_15 (a : Int) (k : IntKind) (h : 8 ≤ k.bits := by decide) : iAnd k a 15 = a % 16 := and_mask k a 4 (by omega)
theorem and_31 (a : Int) (k : IntKind) (h : 8 ≤ k.bits := by decide) : iAnd k a 31 = a % 32 := and_mask k a 5 (by omega)
theorem and_63 (a : Int) (k : IntKind) (h : 8 ≤ k.bits := by decide) : iAnd k a 63 = a % 64 := and_mask k a 6 (by omega)
theorem and_7 (a : Int) (k : IntKind) (h : 8 ≤ k.bits := by decide) : iAnd k a 7 = a % 8 := and_mask k a 3 (by omega)
theorem and_3 (a : Int) (k : IntKind) (h : 8 ≤ k.bits := by decide) : iAnd k a 3 = a % 4 := and_mask k a 2 (by omega)
theorem and_1 (a : Int) (k : IntKind) (h : 8 ≤ k.bits := by decide) : iAnd k a 1 = a % 2 := and_mask k a 1 (by omega)

theorem bits_le (k : IntKind) : k.bits ≤ 64 ∧ 8 ≤ k.bits := by cases k <;> decide
end Go.Vm
/- Plain words: arrays, lists. -/
namespace Go.Vm
section
variable {α : Type}
/-- An array that begins so. -/
def arrOf (n : Nat) (d : α) (l : List α) : Arr n α := ⟨(l ++ List.replicate n d).take n, by simp⟩
theorem arrOf_val {n : Nat} {d : α} {l : List α} (h : l.length = n) : (arrOf n d l).1 = l := by
  unfold arrOf
  simp [← h]
theorem arrWr_arrOf {n : Nat} {d : α} {l : List α} {i : Int} (hi : i = l.length) (h : l.length < n) (x : α) : arrWr (arrOf n d l) i x = arrOf n d (l ++ [x]) := by
  apply Subtype.ext
  subst hi
  simp only [arrWr, arrOf, Int.toNat_natCast]
  apply List.ext_getElem?
  intro j
  rw [List.getElem?_set, List.getElem?_take, List.getElem?_take]
  by_cases hj : l.length = j
  · subst hj
    simp [h]
  · rw [if_neg hj]
    by_cases hj2 : j < l.length
    · rw [List.getElem?_append_left hj2, List.getElem?_append_left (by simp; omega), List.getElem?_append_left hj2]
    · rw [List.getElem?_append_right (by omega), List.getElem?_append_right (by simp; omega)]
      split
      · rw [List.getElem?_replicate, List.getElem?_replicate]
        rw [if_pos (by omega), if_pos (by simp; omega)]
      · rfl
theorem arrRd_arrOf {n : Nat} {d d' : α} {l : List α} {i : Nat} (h : i < l.length) (hn : l.length ≤ n) : arrRd d' (arrOf n d l) (i : Int) = l.getD i d' := by
  simp only [arrRd, arrOf, Int.toNat_natCast]
  rw [List.getD_eq_getElem?_getD, List.getElem?_take, if_pos (by omega), List.getElem?_append_left h, List.getD_eq_getElem?_getD]
theorem arr_ext {n : Nat} {a b : Arr n α} (h : a.1 = b.1) : a = b := Subtype.ext h

theorem range_map_snoc (f : Nat → α) (n : Nat) : (List.range (n + 1)).map f = (List.range n).map f ++ [f n] := by
  rw [List.range_succ, List.map_append]
  rfl
theorem getD_map_range {f : Nat → α} {n i : Nat} (h : i < n) (d : α) : ((List.range n).map f).getD i d = f i := by
  rw [List.getD_eq_getElem?_getD, List.getElem?_map, List.getElem?_range h]
  rfl
end
theorem bLt_true {a b : Int} (h : a < b) : bLt a b = true := by simp [bLt, h]
theorem bLt_false {a b : Int} (h : b ≤ a) : bLt a b = false := by simp [bLt]; omega
theorem bGe_true {a b : Int} (h : b ≤ a) : bGe a b = true := by simp [bGe]; omega
theorem bGe_false {a b : Int} (h : a < b) : bGe a b = false := by simp [bGe]; omega
theorem bGt_true {a b : Int} (h : b < a) : bGt a b = true := by simp [bGt]; omega
theorem bGt_false {a b : Int} (h : a ≤ b) : bGt a b = false := by simp [bGt]; omega
theorem bLe_true {a b : Int} (h : a ≤ b) : bLe a b = true := by simp [bLe]; omega
theorem bLe_false {a b : Int} (h : b < a) : bLe a b = false := by simp [bLe]; omega
@[simp] theorem bEq_self (a : Int) : bEq a a = true := by simp [bEq]
/-- The same on both sides: what stands there is not looked at. -/
theorem ite_bEq {α : Type} (a : Int) (x y : α) : (if bEq a a then x else y) = x := if_pos (bEq_self a)
theorem bEq_true {a b : Int} (h : a = b) : bEq a b = true := by simp [bEq, h]
theorem bEq_false {a b : Int} (h : a ≠ b) : bEq a b = false := by simp [bEq, h]
@[simp] theorem bNe_self (a : Int) : bNe a a = false := by simp [bNe]
theorem ite_bNe {α : Type} (a : Int) (x y : α) : (if bNe a a then x else y) = y := by rw [bNe_self]; rfl
theorem bNe_true {a b : Int} (h : a ≠ b) : bNe a b = true := by simp [bNe, h]
theorem bNe_false {a b : Int} (h : a = b) : bNe a b = false := by simp [bNe, h]

/-- Two equal lists, compared from the begin. -/
theorem cmpLoop {σ α ρ : Type} [Inhabited α] {f : σ → Option (σ ⊕ ρ)} (st : Nat → σ) (n : Nat) {r : ρ} (h : ∀ i, i < n → f (st i) = some (.inl (st (i + 1)))) (he : f (st n) = some (.inr r)) : loopLim f (st 0) = some r := loopLim_count st n rfl h he
end Go.Vm
